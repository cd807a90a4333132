import PyProof.Rows.All
import Wide.All
import OpenK.AllK
import Wide.FinOn
import KE.DataMinMax
import KE.SortData
import HandS.ForMost
import HandS.Deep
import KE.GoesEnum
import HandS.Star
import HandS.IsInst
import HandS.AnyAll
import HandS.SetFor
import HandS.Flow
import HandS.Conv
import HandS.TupAny
import HandS.EndTab
import PySem.Challenge.RW_firstthere_k06_whole_needed_lots
import HandS.NestedK
set_option Elab.async false
set_option linter.all false
set_option maxHeartbeats 4000000
namespace K06

/-! ### chains and holders -/
def nxt (ds : List Int) (h : Int) : Int := ds.getD h.toNat (-1)
/-- the rest of a chain at h, behind those that were seen -/
def cf (ds : List Int) : Nat → List Int → Int → List Int
  | 0, _, _ => []
  | k + 1, seen, h => if h = -1 ∨ h ∈ seen then [] else h :: cf ds k (seen ++ [h]) (nxt ds h)
def chain (ds : List Int) (p : Int) : List Int := cf ds (ds.length + 1) [] p
def firstOut (g : List Int) : List Int → Int
  | [] => -1
  | x :: r => if x ∈ g then firstOut g r else x
def holder (ds g : List Int) (p : Int) : Int := firstOut g (chain ds p)
def holders (ds g : List Int) : List Int := (List.range ds.length).map fun i => holder ds g (i : Nat)
def load (ds g : List Int) (p : Int) : Nat := (holders ds g).count p
/-- the law's walk -/
def lh (ds g : List Int) : Nat → List Int → Int → Int
  | 0, _, _ => -1
  | k + 1, seen, h => if h = -1 ∨ h ∈ seen then -1 else if h ∈ g then lh ds g k (seen ++ [h]) (nxt ds h) else h
theorem lh_eq (ds g : List Int) : ∀ (k : Nat) (seen : List Int) (h : Int), lh ds g k seen h = firstOut g (cf ds k seen h)
  | 0, _, _ => rfl
  | k + 1, seen, h => by
    unfold lh cf
    split
    · rfl
    · unfold firstOut
      rw [lh_eq ds g k]
theorem lh_holder (ds g : List Int) (p : Int) : lh ds g (ds.length + 1) [] p = holder ds g p := lh_eq ds g _ _ _

/-- deputies -/
structure Deps (ds : List Int) : Prop where
  lo : 1 ≤ ds.length
  hi : ds.length ≤ 5
  ok : ∀ (i : Nat) (d : Int), ds[i]? = some d → -1 ≤ d ∧ d < ds.length ∧ d ≠ i
/-- a person -/
def Per (ds : List Int) (p : Int) : Prop := 0 ≤ p ∧ p < ds.length
theorem Deps.nxt {ds : List Int} (D : Deps ds) {h : Int} (hp : Per ds h) : -1 ≤ nxt ds h ∧ nxt ds h < ds.length := by
  obtain ⟨h0, h1⟩ := hp
  have hl : h.toNat < ds.length := by omega
  have e : ds[h.toNat]? = some ds[h.toNat] := List.getElem?_eq_getElem hl
  have q := D.ok h.toNat _ e
  unfold K06.nxt
  rw [List.getD_eq_getElem?_getD, e]
  exact ⟨q.1, q.2.1⟩
theorem nxt_get {ds : List Int} {h : Int} (hp : Per ds h) : ds[h.toNat]? = some (nxt ds h) := by
  obtain ⟨h0, h1⟩ := hp
  have hl : h.toNat < ds.length := by omega
  have e : ds[h.toNat]? = some ds[h.toNat] := List.getElem?_eq_getElem hl
  unfold nxt
  rw [List.getD_eq_getElem?_getD, e]
  rfl

/-- unlike numbers from 0 to less than n are at most n -/
theorem pigeon : ∀ (n : Nat) (l : List Int), l.Nodup → (∀ x ∈ l, 0 ≤ x ∧ x < n) → l.length ≤ n
  | 0, l, _, h => by
    cases l with
    | nil => exact Nat.le_refl _
    | cons x r =>
      have := h x (List.mem_cons_self ..)
      omega
  | n + 1, l, hn, h => by
    have h2 := pigeon n (l.erase (n : Int)) (hn.erase _) fun x hx => by
      have hx1 := List.mem_of_mem_erase hx
      have hx2 := h x hx1
      have hne : x ≠ (n : Int) := fun e => by
        rw [e] at hx
        exact (List.Nodup.not_mem_erase hn) hx
      omega
    rw [List.length_erase] at h2
    split at h2 <;> omega

/-- the state of the walk along a chain -/
structure CInv (ds : List Int) (p : Int) (seen : List Int) (h : Int) : Prop where
  nd : seen.Nodup
  per : ∀ x ∈ seen, Per ds x
  here : -1 ≤ h ∧ h < ds.length
  all : seen ++ cf ds (ds.length + 1 - seen.length) seen h = chain ds p
theorem CInv.len {ds : List Int} {p h : Int} {seen : List Int} (c : CInv ds p seen h) : seen.length ≤ ds.length := pigeon _ _ c.nd c.per
theorem CInv.start {ds : List Int} {p : Int} (hp : Per ds p) : CInv ds p [] p :=
  ⟨List.nodup_nil, (by simp), ⟨(by have := hp.1; omega), hp.2⟩, rfl⟩
theorem CInv.stop {ds : List Int} {p h : Int} {seen : List Int} (c : CInv ds p seen h) (hs : h = -1 ∨ h ∈ seen) : seen = chain ds p := by
  have q := c.all
  have hl := c.len
  obtain ⟨k, hk⟩ : ∃ k, ds.length + 1 - seen.length = k + 1 := ⟨ds.length - seen.length, by omega⟩
  rw [hk] at q
  unfold cf at q
  rw [if_pos hs, List.append_nil] at q
  exact q
theorem CInv.isPer {ds : List Int} {p h : Int} {seen : List Int} (c : CInv ds p seen h) (h1 : h ≠ -1) : Per ds h := by
  have := c.here
  exact ⟨by omega, this.2⟩
theorem CInv.step {ds : List Int} {p h : Int} {seen : List Int} (D : Deps ds) (c : CInv ds p seen h) (h1 : h ≠ -1) (h2 : h ∉ seen) : CInv ds p (seen ++ [h]) (K06.nxt ds h) := by
  have hp := c.isPer h1
  have hl := c.len
  refine ⟨?_, ?_, D.nxt hp, ?_⟩
  · rw [List.nodup_append]
    exact ⟨c.nd, List.nodup_cons.mpr ⟨by simp, List.nodup_nil⟩, fun a ha b hb => by
      have : b = h := by simpa using hb
      subst this
      exact fun e => h2 (e ▸ ha)⟩
  · intro x hx
    rcases List.mem_append.mp hx with hx | hx
    · exact c.per x hx
    · have : x = h := by simpa using hx
      rw [this]
      exact hp
  · have q := c.all
    obtain ⟨k, hk⟩ : ∃ k, ds.length + 1 - seen.length = k + 1 := ⟨ds.length - seen.length, by omega⟩
    have hk2 : ds.length + 1 - (seen ++ [h]).length = k := by
      rw [List.length_append]
      simp only [List.length_cons, List.length_nil]
      omega
    rw [hk] at q
    unfold cf at q
    rw [if_neg (by intro z; rcases z with z | z; exact h1 z; exact h2 z)] at q
    rw [hk2, List.append_assoc]
    exact q
theorem cf_facts (ds : List Int) (D : Deps ds) : ∀ (k : Nat) (seen : List Int) (h : Int), -1 ≤ h → h < ds.length → (cf ds k seen h).Nodup ∧ (∀ x ∈ cf ds k seen h, Per ds x ∧ x ∉ seen)
  | 0, _, _, _, _ => ⟨List.nodup_nil, by intro x hx; cases hx⟩
  | k + 1, seen, h, h1, h2 => by
    unfold cf
    split
    · exact ⟨List.nodup_nil, by intro x hx; cases hx⟩
    · rename_i hc
      have hc1 : h ≠ -1 := fun e => hc (.inl e)
      have hc2 : h ∉ seen := fun e => hc (.inr e)
      have hp : Per ds h := ⟨by omega, h2⟩
      have hn := D.nxt hp
      obtain ⟨i1, i2⟩ := cf_facts ds D k (seen ++ [h]) (nxt ds h) hn.1 hn.2
      refine ⟨List.nodup_cons.mpr ⟨fun z => ?_, i1⟩, fun x hx => ?_⟩
      · have := (i2 h z).2
        exact this (by simp)
      · rcases List.mem_cons.mp hx with rfl | hx
        · exact ⟨hp, hc2⟩
        · exact ⟨(i2 x hx).1, fun z => (i2 x hx).2 (by simp [z])⟩
theorem chain_nd {ds : List Int} (D : Deps ds) {p : Int} (hp : Per ds p) : (chain ds p).Nodup := (cf_facts ds D _ _ _ (by have := hp.1; omega) hp.2).1
theorem chain_per {ds : List Int} (D : Deps ds) {p : Int} (hp : Per ds p) : ∀ x ∈ chain ds p, Per ds x := fun x hx => ((cf_facts ds D _ _ _ (by have := hp.1; omega) hp.2).2 x hx).1
theorem chain_len {ds : List Int} (D : Deps ds) {p : Int} (hp : Per ds p) : (chain ds p).length ≤ ds.length := pigeon _ _ (chain_nd D hp) (chain_per D hp)

/-! ### lots -/
def lots : Nat → List (List Int)
  | 0 => [[]]
  | n + 1 => lots n ++ (lots n).map (· ++ [(n : Int)])
def IsLot (n : Nat) (g : List Int) : Prop := g.Pairwise (· < ·) ∧ ∀ x ∈ g, 0 ≤ x ∧ x < n
theorem lots_len : ∀ n, (lots n).length = 2 ^ n
  | 0 => rfl
  | n + 1 => by
    unfold lots
    rw [List.length_append, List.length_map, lots_len n, Nat.pow_succ]
    omega
theorem lots_ok : ∀ (n : Nat) (g : List Int), g ∈ lots n → IsLot n g
  | 0, g, h => by
    have : g = [] := by simpa [lots] using h
    subst this
    exact ⟨List.Pairwise.nil, by intro x hx; cases hx⟩
  | n + 1, g, h => by
    unfold lots at h
    rcases List.mem_append.mp h with h | h
    · obtain ⟨a, b⟩ := lots_ok n g h
      exact ⟨a, fun x hx => by have := b x hx; omega⟩
    · obtain ⟨g', hg, rfl⟩ := List.mem_map.mp h
      obtain ⟨a, b⟩ := lots_ok n g' hg
      refine ⟨?_, fun x hx => ?_⟩
      · rw [List.pairwise_append]
        refine ⟨a, List.pairwise_singleton _ _, fun x hx y hy => ?_⟩
        have : y = (n : Int) := by simpa using hy
        rw [this]
        exact (b x hx).2
      · rcases List.mem_append.mp hx with hx | hx
        · have := b x hx
          omega
        · have : x = (n : Int) := by simpa using hx
          omega
/-- an ascending list ends with n or stays below it -/
theorem asc_split (n : Nat) : ∀ (g : List Int), IsLot (n + 1) g → IsLot n g ∨ ∃ g', g = g' ++ [(n : Int)] ∧ IsLot n g'
  | [], _ => .inl ⟨List.Pairwise.nil, by intro x hx; cases hx⟩
  | x :: r, h => by
    obtain ⟨h1, h2⟩ := h
    rw [List.pairwise_cons] at h1
    have hx := h2 x (List.mem_cons_self ..)
    have hr : IsLot (n + 1) r := ⟨h1.2, fun y hy => h2 y (List.mem_cons_of_mem _ hy)⟩
    rcases asc_split n r hr with q | ⟨g', e, q⟩
    · cases r with
      | nil =>
        by_cases e : x = (n : Int)
        · exact .inr ⟨[], by rw [e]; rfl, List.Pairwise.nil, by intro y hy; cases hy⟩
        · refine .inl ⟨List.pairwise_singleton _ _, fun y hy => ?_⟩
          have : y = x := by simpa using hy
          omega
      | cons y r' =>
        have hy := (q.2 y (List.mem_cons_self ..)).2
        have hxy := h1.1 y (List.mem_cons_self ..)
        refine .inl ⟨List.pairwise_cons.mpr h1, fun z hz => ?_⟩
        rcases List.mem_cons.mp hz with rfl | hz
        · omega
        · exact q.2 z hz
    · refine .inr ⟨x :: g', by rw [e]; rfl, ?_, fun z hz => ?_⟩
      · rw [List.pairwise_cons]
        exact ⟨fun z hz => h1.1 z (by rw [e]; exact List.mem_append_left _ hz), q.1⟩
      · rcases List.mem_cons.mp hz with rfl | hz
        · have := h1.1 (n : Int) (by rw [e]; simp)
          omega
        · exact q.2 z hz
theorem lots_mem : ∀ (n : Nat) (g : List Int), IsLot n g → g ∈ lots n
  | 0, g, h => by
    cases g with
    | nil => simp [lots]
    | cons x r =>
      have := h.2 x (List.mem_cons_self ..)
      omega
  | n + 1, g, h => by
    unfold lots
    rcases asc_split n g h with q | ⟨g', e, q⟩
    · exact List.mem_append_left _ (lots_mem n g q)
    · exact List.mem_append_right _ (List.mem_map.mpr ⟨g', lots_mem n g' q, e.symm⟩)
theorem lots_iff (n : Nat) (g : List Int) : g ∈ lots n ↔ IsLot n g := ⟨lots_ok n g, lots_mem n g⟩
theorem lots_nd : ∀ n, (lots n).Nodup
  | 0 => by simp [lots]
  | n + 1 => by
    unfold lots
    rw [List.nodup_append]
    refine ⟨lots_nd n, ?_, fun a ha b hb e => ?_⟩
    · show List.Pairwise _ _
      rw [List.pairwise_map]
      exact (lots_nd n).imp fun {a b} h e => h (List.append_cancel_right e)
    · obtain ⟨g', hg, rfl⟩ := List.mem_map.mp hb
      subst e
      have := (lots_ok n _ ha).2 (n : Int) (by simp)
      omega
theorem nil_lot (n : Nat) : [] ∈ lots n := lots_mem n [] ⟨List.Pairwise.nil, by intro x hx; cases hx⟩
theorem lot_len {n : Nat} {g : List Int} (h : g ∈ lots n) : g.length ≤ n :=
  pigeon n g ((lots_ok n g h).1.imp fun {a b} h e => by omega) (lots_ok n g h).2

/-! ### what a holder is -/
theorem firstOut_mem (g : List Int) : ∀ (l : List Int), firstOut g l = -1 ∨ (firstOut g l ∈ l ∧ firstOut g l ∉ g)
  | [] => .inl rfl
  | x :: r => by
    unfold firstOut
    split
    · rcases firstOut_mem g r with q | q
      · exact .inl q
      · exact .inr ⟨List.mem_cons_of_mem _ q.1, q.2⟩
    · exact .inr ⟨List.mem_cons_self .., by assumption⟩
theorem firstOut_none (g : List Int) : ∀ (l : List Int), (∀ x ∈ l, 0 ≤ x) → (firstOut g l = -1 ↔ ∀ x ∈ l, x ∈ g)
  | [], _ => by simp [firstOut]
  | x :: r, h => by
    have ih := firstOut_none g r fun y hy => h y (List.mem_cons_of_mem _ hy)
    have hx := h x (List.mem_cons_self ..)
    unfold firstOut
    split
    · rename_i hm
      rw [ih]
      exact ⟨fun q y hy => by
        rcases List.mem_cons.mp hy with rfl | hy
        · exact hm
        · exact q y hy, fun q y hy => q y (List.mem_cons_of_mem _ hy)⟩
    · rename_i hm
      constructor
      · intro e
        omega
      · intro q
        exact absurd (q x (List.mem_cons_self ..)) hm
/-- a list split at its first o -/
theorem firstOut_at (g : List Int) (o : Int) (ho : 0 ≤ o) (post : List Int) : ∀ (pre : List Int), o ∉ pre → (firstOut g (pre ++ o :: post) = o ↔ (∀ x ∈ pre, x ∈ g) ∧ o ∉ g ∨ ((∀ x ∈ pre, x ∈ g) ∧ o ∈ g ∧ firstOut g post = o))
  | [], _ => by
    show (if o ∈ g then firstOut g post else o) = o ↔ _
    by_cases h : o ∈ g
    · rw [if_pos h]
      constructor
      · intro e
        exact .inr ⟨(by intro x hx; cases hx), h, e⟩
      · intro q
        rcases q with q | q
        · exact absurd h q.2
        · exact q.2.2
    · rw [if_neg h]
      constructor
      · intro _
        exact .inl ⟨(by intro x hx; cases hx), h⟩
      · intro _
        rfl
  | y :: pre, hn => by
    have hy : y ≠ o := fun e => hn (by rw [e]; exact List.mem_cons_self ..)
    have ih := firstOut_at g o ho post pre fun z => hn (List.mem_cons_of_mem _ z)
    show (if y ∈ g then firstOut g (pre ++ o :: post) else y) = o ↔ _
    by_cases h : y ∈ g
    · rw [if_pos h, ih]
      have key : (∀ x ∈ y :: pre, x ∈ g) ↔ ∀ x ∈ pre, x ∈ g := ⟨fun q x hx => q x (List.mem_cons_of_mem _ hx), fun q x hx => by
        rcases List.mem_cons.mp hx with rfl | hx
        · exact h
        · exact q x hx⟩
      rw [key]
    · rw [if_neg h]
      constructor
      · intro e
        exact absurd e hy
      · intro q
        rcases q with q | q
        · exact absurd (q.1 y (List.mem_cons_self ..)) h
        · exact absurd (q.1 y (List.mem_cons_self ..)) h
theorem asc_nodup {g : List Int} (h : g.Pairwise (· < ·)) : g.Nodup := h.imp fun {a b} h e => by omega
/-- ascending lists with the same things are one -/
theorem asc_ext : ∀ (a b : List Int), a.Pairwise (· < ·) → b.Pairwise (· < ·) → (∀ x, x ∈ a ↔ x ∈ b) → a = b
  | [], [], _, _, _ => rfl
  | [], y :: r, _, _, h => by
    have := (h y).mpr (List.mem_cons_self ..)
    cases this
  | x :: r, [], _, _, h => by
    have := (h x).mp (List.mem_cons_self ..)
    cases this
  | x :: r, y :: t, ha, hb, h => by
    rw [List.pairwise_cons] at ha hb
    have e : x = y := by
      have h1 := (h x).mp (List.mem_cons_self ..)
      have h2 := (h y).mpr (List.mem_cons_self ..)
      rcases List.mem_cons.mp h1 with q1 | q1
      · exact q1
      · rcases List.mem_cons.mp h2 with q2 | q2
        · exact q2.symm
        · have l1 := hb.1 x q1
          have l2 := ha.1 y q2
          omega
    subst e
    have hr : r = t := asc_ext r t ha.2 hb.2 fun z => by
      have hz := h z
      constructor
      · intro hm
        rcases List.mem_cons.mp (hz.mp (List.mem_cons_of_mem _ hm)) with q | q
        · have := ha.1 z hm
          omega
        · exact q
      · intro hm
        rcases List.mem_cons.mp (hz.mpr (List.mem_cons_of_mem _ hm)) with q | q
        · have := hb.1 z hm
          omega
        · exact q
    rw [hr]
theorem sub_len : ∀ (a b : List Int), a.Nodup → b.Nodup → (∀ x ∈ a, x ∈ b) → a.length ≤ b.length ∧ (a.length = b.length → ∀ x ∈ b, x ∈ a)
  | [], b, _, _, _ => ⟨Nat.zero_le _, fun e x hx => by
    have : b = [] := List.length_eq_zero_iff.mp e.symm
    rw [this] at hx
    exact hx⟩
  | y :: r, b, ha, hb, h => by
    rw [List.nodup_cons] at ha
    have hy := h y (List.mem_cons_self ..)
    obtain ⟨i1, i2⟩ := sub_len r (b.erase y) ha.2 (hb.erase y) fun x hx => by
      rw [List.Nodup.mem_erase_iff hb]
      exact ⟨fun e => ha.1 (e ▸ hx), h x (List.mem_cons_of_mem _ hx)⟩
    have hl : (b.erase y).length = b.length - 1 := List.length_erase_of_mem hy
    have hpos : 0 < b.length := List.length_pos_of_mem hy
    rw [hl] at i1 i2
    refine ⟨by rw [List.length_cons]; omega, fun e x hx => ?_⟩
    rw [List.length_cons] at e
    by_cases exy : x = y
    · rw [exy]
      exact List.mem_cons_self ..
    · exact List.mem_cons_of_mem _ (i2 (by omega) x (by rw [List.Nodup.mem_erase_iff hb]; exact ⟨exy, hx⟩))
end K06

set_option maxHeartbeats 4000000
namespace K06

/-- those of the least length -/
def leastOf (s : List (List Int)) : List (List Int) := s.filter fun g => decide (∀ y ∈ s, g.length ≤ y.length)
theorem leastOf_mem {s : List (List Int)} {g : List Int} : g ∈ leastOf s ↔ g ∈ s ∧ ∀ y ∈ s, g.length ≤ y.length := by
  unfold leastOf
  rw [List.mem_filter, decide_eq_true_eq]
theorem least_test {s : List (List Int)} {m : Int} (hm : m ∈ s.map fun g => (g.length : Int)) (hle : ∀ y ∈ s.map fun g => (g.length : Int), m ≤ y) (g : List Int) (hg : g ∈ s) :
    decide ((g.length : Int) = m) = decide (∀ y ∈ s, g.length ≤ y.length) := by
  rw [decide_eq_decide]
  constructor
  · intro e y hy
    have := hle (y.length : Int) (List.mem_map.mpr ⟨y, hy, rfl⟩)
    omega
  · intro h
    obtain ⟨z, hz, e⟩ := List.mem_map.mp hm
    have h1 := h z hz
    have h2 := hle (g.length : Int) (List.mem_map.mpr ⟨g, hg, rfl⟩)
    omega
/-- a shortest one -/
theorem exists_short : ∀ (s : List (List Int)), s ≠ [] → ∃ g ∈ s, ∀ y ∈ s, g.length ≤ y.length
  | [], h => absurd rfl h
  | [g], _ => ⟨g, List.mem_cons_self .., fun y hy => by
    have : y = g := by simpa using hy
    rw [this]
    exact Nat.le_refl _⟩
  | g :: g' :: r, _ => by
    obtain ⟨x, hx, h⟩ := exists_short (g' :: r) (by simp)
    by_cases c : g.length ≤ x.length
    · exact ⟨g, List.mem_cons_self .., fun y hy => by
        rcases List.mem_cons.mp hy with e | hy
        · rw [e]
          exact Nat.le_refl _
        · exact Nat.le_trans c (h y hy)⟩
    · exact ⟨x, List.mem_cons_of_mem _ hx, fun y hy => by
        rcases List.mem_cons.mp hy with e | hy
        · rw [e]
          omega
        · exact h y hy⟩
theorem leastOf_nil {s : List (List Int)} : leastOf s = [] ↔ s = [] := by
  constructor
  · intro h
    by_cases e : s = []
    · exact e
    · obtain ⟨g, hg, q⟩ := exists_short s e
      have : g ∈ leastOf s := leastOf_mem.mpr ⟨hg, q⟩
      rw [h] at this
      cases this
  · intro h
    rw [h]
    rfl
theorem leastOf_perm {s t : List (List Int)} (h : s.Perm t) (g : List Int) : g ∈ leastOf s ↔ g ∈ leastOf t := by
  rw [leastOf_mem, leastOf_mem, h.mem_iff]
  exact ⟨fun q => ⟨q.1, fun y hy => q.2 y (h.mem_iff.mpr hy)⟩, fun q => ⟨q.1, fun y hy => q.2 y (h.mem_iff.mp hy)⟩⟩

/-! ### least_gone -/
def goneSome (ds : List Int) (p o : Int) (L : List (List Int)) : List (List Int) := L.filter fun g => decide (holder ds g p = o)
theorem gone_none {ds : List Int} {p o : Int} (L : List (List Int)) (h1 : o ≠ -1) (h2 : o ∉ chain ds p) : goneSome ds p o L = [] := by
  unfold goneSome
  rw [List.filter_eq_nil_iff]
  intro g _ e
  rw [decide_eq_true_eq] at e
  rcases firstOut_mem g (chain ds p) with q | q
  · exact h1 (e.symm.trans q)
  · exact h2 (by rw [← e]; exact q.1)
theorem mem_index : ∀ (l : List Int) (o : Int), o ∈ l → ∃ (pre post : List Int), l = pre ++ o :: post ∧ o ∉ pre
  | x :: r, o, h => by
    by_cases e : x = o
    · exact ⟨[], r, by rw [e]; rfl, by simp⟩
    · rcases List.mem_cons.mp h with q | q
      · exact absurd q.symm e
      · obtain ⟨pre, post, e1, e2⟩ := mem_index r o q
        exact ⟨x :: pre, post, by rw [e1]; rfl, fun z => by
          rcases List.mem_cons.mp z with z | z
          · exact e z.symm
          · exact e2 z⟩
/-- what must leave for o -/
def Pre (ds : List Int) (p o : Int) (pre : List Int) : Prop := (o = -1 ∧ pre = chain ds p) ∨ (o ≠ -1 ∧ o ∉ pre ∧ ∃ post, chain ds p = pre ++ o :: post)
theorem holder_pre {ds : List Int} (D : Deps ds) {p o : Int} (hp : Per ds p) (ho : -1 ≤ o) {pre : List Int} (h : Pre ds p o pre) (g : List Int) :
    (holder ds g p = o → ∀ x ∈ pre, x ∈ g) ∧ ((∀ x ∈ pre, x ∈ g) → (o = -1 ∨ o ∉ g) → holder ds g p = o) := by
  rcases h with ⟨e, e2⟩ | ⟨e, hn, post, e2⟩
  · subst e e2
    have q := firstOut_none g (chain ds p) fun x hx => (chain_per D hp x hx).1
    exact ⟨fun h => q.mp h, fun h _ => q.mpr h⟩
  · have ho0 : 0 ≤ o := by omega
    have q := firstOut_at g o ho0 post pre hn
    unfold holder
    rw [e2]
    refine ⟨fun h => ?_, fun h1 h2 => ?_⟩
    · rcases q.mp h with z | z
      · exact z.1
      · exact z.1
    · exact q.mpr (.inl ⟨h1, h2.resolve_left e⟩)
theorem gone_some {ds : List Int} (D : Deps ds) {p o : Int} (hp : Per ds p) (ho : -1 ≤ o) {pre S : List Int} {L : List (List Int)} (hL : L.Perm (lots ds.length)) (h : Pre ds p o pre) (hS : S.Perm pre) (hA : S.Pairwise (· ≤ ·)) :
    leastOf (goneSome ds p o L) = [S] := by
  have ndc := chain_nd D hp
  have ndP : pre.Nodup := by
    rcases h with ⟨_, e⟩ | ⟨_, _, post, e⟩
    · rw [e]
      exact ndc
    · rw [e] at ndc
      exact (List.nodup_append.mp ndc).1
  have perP : ∀ x ∈ pre, Per ds x := fun x hx => chain_per D hp x (by
    rcases h with ⟨_, e⟩ | ⟨_, _, post, e⟩
    · rw [← e]
      exact hx
    · rw [e]
      exact List.mem_append_left _ hx)
  have ndS : S.Nodup := hS.nodup_iff.mpr ndP
  have ascS : S.Pairwise (· < ·) := by
    have ndS' : S.Pairwise (· ≠ ·) := ndS
    exact (hA.and ndS').imp fun {a b} q => by
      have := q.1
      have := q.2
      omega
  have lotS : S ∈ lots ds.length := lots_mem _ _ ⟨ascS, fun x hx => perP x (hS.mem_iff.mp hx)⟩
  have hh := holder_pre D hp ho h
  have inS : S ∈ goneSome ds p o L := by
    unfold goneSome
    rw [List.mem_filter, decide_eq_true_eq]
    refine ⟨hL.mem_iff.mpr lotS, (hh S).2 (fun x hx => hS.mem_iff.mpr hx) ?_⟩
    rcases h with ⟨e, _⟩ | ⟨_, hn, _⟩
    · exact .inl e
    · exact .inr fun z => hn (hS.mem_iff.mp z)
  have less : ∀ g ∈ goneSome ds p o L, S.length ≤ g.length ∧ (g.length ≤ S.length → g = S) := fun g hg => by
    unfold goneSome at hg
    rw [List.mem_filter, decide_eq_true_eq] at hg
    have hgl := lots_ok _ _ (hL.mem_iff.mp hg.1)
    have sub : ∀ x ∈ S, x ∈ g := fun x hx => (hh g).1 hg.2 x (hS.mem_iff.mp hx)
    obtain ⟨q1, q2⟩ := sub_len S g ndS (asc_nodup hgl.1) sub
    exact ⟨q1, fun q => asc_ext g S hgl.1 ascS fun x => ⟨fun hx => q2 (Nat.le_antisymm q1 q) x hx, fun hx => sub x hx⟩⟩
  have ndL : (leastOf (goneSome ds p o L)).Nodup := by
    unfold leastOf goneSome
    exact ((hL.nodup_iff.mpr (lots_nd _)).filter _).filter _
  have mem : ∀ g, g ∈ leastOf (goneSome ds p o L) ↔ g = S := fun g => by
    rw [leastOf_mem]
    constructor
    · intro ⟨h1, h2⟩
      exact (less g h1).2 (h2 S inS)
    · intro e
      rw [e]
      exact ⟨inS, fun y hy => (less y hy).1⟩
  cases hc : leastOf (goneSome ds p o L) with
  | nil =>
    have := (mem S).mpr rfl
    rw [hc] at this
    cases this
  | cons a r =>
    rw [hc] at mem ndL
    have ea : a = S := (mem a).mp (List.mem_cons_self ..)
    cases r with
    | nil => rw [ea]
    | cons b t =>
      have eb : b = S := (mem b).mp (List.mem_cons_of_mem _ (List.mem_cons_self ..))
      rw [List.nodup_cons] at ndL
      exact absurd (List.mem_cons_self ..) (by rw [ea, ← eb] at ndL; exact ndL.1)

/-! ### loads -/
def loaded (ds : List Int) (p many : Int) (L : List (List Int)) : List (List Int) := L.filter fun g => decide (p ∉ g) && decide (many ≤ (load ds g p : Int))
theorem loaded_perm {ds : List Int} {p many : Int} {L L' : List (List Int)} (h : L.Perm L') : (loaded ds p many L).Perm (loaded ds p many L') := h.filter _
theorem loaded_lots {ds : List Int} {p many : Int} {L : List (List Int)} (hL : L.Perm (lots ds.length)) {g : List Int} (h : g ∈ loaded ds p many L) : g ∈ lots ds.length :=
  hL.mem_iff.mp (List.mem_filter.mp h).1
/-- (length, lot) pairs: the less -/
def pairLt (a b : Int × List Int) : Prop := a.1 < b.1 ∨ (a.1 = b.1 ∧ a.2 < b.2)
theorem fewest_eq {s t : List (List Int)} (h : s.Perm t) {g0 g1 : List Int} (h0 : g0 ∈ s) (m0 : ∀ g ∈ s, ¬ pairLt ((g.length : Int), g) ((g0.length : Int), g0)) (h1 : g1 ∈ leastOf t) (m1 : ∀ g ∈ leastOf t, ¬ g < g1) : g0 = g1 := by
  have h0t : g0 ∈ leastOf t := by
    rw [leastOf_mem]
    refine ⟨h.mem_iff.mp h0, fun y hy => ?_⟩
    have := m0 y (h.mem_iff.mpr hy)
    by_cases c : g0.length ≤ y.length
    · exact c
    · exact absurd (.inl (show ((y.length : Nat) : Int) < (g0.length : Int) by omega)) this
  have a : ¬ g0 < g1 := m1 g0 h0t
  have l1 := leastOf_mem.mp h1
  have l0 := leastOf_mem.mp h0t
  have e : g1.length = g0.length := Nat.le_antisymm (l1.2 g0 l0.1) (l0.2 g1 l1.1)
  have b : ¬ g1 < g0 := fun z => m0 g1 (h.mem_iff.mpr l1.1) (.inr ⟨by show ((g1.length : Nat) : Int) = _; rw [e], z⟩)
  exact List.le_antisymm (List.not_lt.mp b) (List.not_lt.mp a)
theorem shows_few {s t : List (List Int)} (h : s.Perm t) {m : Int} (hm : m ∈ s.map fun g => (g.length : Int)) (hle : ∀ y ∈ s.map fun g => (g.length : Int), m ≤ y) (g : List Int) :
    (decide (g ∈ s) && decide ((g.length : Int) = m)) = decide (g ∈ leastOf t) := by
  have e : decide (g ∈ leastOf t) = decide (g ∈ leastOf s) := decide_eq_decide.mpr (leastOf_perm h g).symm
  rw [e]
  by_cases c : g ∈ s
  · rw [least_test hm hle g c, decide_eq_true c, Bool.true_and, decide_eq_decide, leastOf_mem]
    exact ⟨fun q => ⟨c, q⟩, fun q => q.2⟩
  · rw [decide_eq_false c, Bool.false_and]
    exact (decide_eq_false fun z => c (leastOf_mem.mp z).1).symm

/-! ### greatest loads -/
def counts (ds g : List Int) : List Int := (List.range ds.length).map fun i => ((load ds g (i : Nat) : Nat) : Int)
def maxI : List Int → Int
  | [] => 0
  | [x] => x
  | x :: r => max x (maxI r)
theorem maxI_ge : ∀ (l : List Int), ∀ x ∈ l, x ≤ maxI l
  | [x], y, h => by
    have : y = x := by simpa using h
    rw [this]
    exact Int.le_refl _
  | x :: z :: r, y, h => by
    show y ≤ max x (maxI (z :: r))
    rcases List.mem_cons.mp h with e | h
    · rw [e]
      exact Int.le_max_left ..
    · exact Int.le_trans (maxI_ge (z :: r) y h) (Int.le_max_right ..)
theorem maxI_mem : ∀ (l : List Int), l ≠ [] → maxI l ∈ l
  | [], h => absurd rfl h
  | [x], _ => List.mem_cons_self ..
  | x :: z :: r, _ => by
    have ih := maxI_mem (z :: r) (by simp)
    show max x (maxI (z :: r)) ∈ _
    by_cases c : x ≤ maxI (z :: r)
    · rw [Int.max_eq_right c]
      exact List.mem_cons_of_mem _ ih
    · rw [Int.max_eq_left (by omega)]
      exact List.mem_cons_self ..
theorem maxI_eq {l : List Int} {m : Int} (h1 : m ∈ l) (h2 : ∀ y ∈ l, y ≤ m) : m = maxI l := by
  have a := maxI_ge l m h1
  have b := h2 _ (maxI_mem l (List.ne_nil_of_mem h1))
  omega
def top (ds g : List Int) : Int := maxI (counts ds g)
theorem counts_ne {ds g : List Int} (D : Deps ds) : 0 < (counts ds g).length := by
  unfold counts
  rw [List.length_map, List.length_range]
  exact D.lo
def small (many : Int) (L : List (List Int)) : List (List Int) := L.filter fun g => decide ((g.length : Int) ≤ many)
def best (ds : List Int) (many : Int) (L : List (List Int)) : Int := maxI ((small many L).map (top ds))
theorem small_ne {ds : List Int} {many : Int} {L : List (List Int)} (hL : L.Perm (lots ds.length)) (hm : 0 ≤ many) : [] ∈ small many L := by
  unfold small
  rw [List.mem_filter, decide_eq_true_eq]
  exact ⟨hL.mem_iff.mpr (nil_lot _), hm⟩
theorem maxI_ext {a b : List Int} (ha : a ≠ []) (h : ∀ x, x ∈ a ↔ x ∈ b) : maxI a = maxI b := by
  have m := maxI_mem a ha
  exact maxI_eq ((h _).mp m) fun y hy => maxI_ge a y ((h y).mpr hy)
theorem best_perm {ds : List Int} {many : Int} {L L' : List (List Int)} (h : L.Perm L') (hL : L.Perm (lots ds.length)) (hm : 0 ≤ many) : best ds many L = best ds many L' := by
  unfold best
  refine maxI_ext (fun e => ?_) fun x => ?_
  · have := small_ne (ds := ds) hL hm
    rw [List.map_eq_nil_iff.mp e] at this
    cases this
  · exact ((h.filter _).map _).mem_iff
/-- a pair that no other one of the list exceeds -/
theorem best_of {ds : List Int} {many : Int} {L : List (List Int)} {b : Int} {g : List Int} (h1 : g ∈ small many L) (h2 : b = top ds g) (h3 : ∀ g' ∈ small many L, ¬ pairLt (b, g) (top ds g', g')) : b = best ds many L := by
  refine maxI_eq (List.mem_map.mpr ⟨g, h1, h2.symm⟩) fun y hy => ?_
  obtain ⟨g', hg', rfl⟩ := List.mem_map.mp hy
  have := h3 g' hg'
  by_cases c : top ds g' ≤ b
  · exact c
  · exact absurd (.inl (show b < top ds g' by omega)) this
theorem small_mem {many : Int} {L : List (List Int)} {g : List Int} : g ∈ small many L ↔ g ∈ L ∧ (g.length : Int) ≤ many := by
  unfold small
  rw [List.mem_filter, decide_eq_true_eq]
end K06

set_option maxRecDepth 100000
set_option maxHeartbeats 4000000
/-! Rules: sorted of tuples whose first is empty; min and max of alike data. -/
namespace K06R
open PySem PySem.Spec PyProof.Rows L2 PySem.W PySem.SeqAt

/-! ### the order of data -/
abbrev TK := PyProof.Rows.listOrd itemOrd
theorem dataLt_blt (x y : PyData) : dataLt x y = TK.blt (keyToks x) (keyToks y) := rfl
theorem dLt_trans {x y z : PyData} (h1 : dataLt x y = true) (h2 : dataLt y z = true) : dataLt x z = true := TK.trans _ _ _ h1 h2
theorem dLt_irr (x : PyData) : dataLt x x = false := TK.irrefl _
theorem min_spec : ∀ (xs : List PyData) (x : PyData), minD x xs ∈ x :: xs ∧ ∀ e ∈ x :: xs, dataLt e (minD x xs) = false := by
  intro xs
  have main : ∀ (xs : List PyData) (x : PyData) (pre : List PyData), x ∈ pre → (∀ e ∈ pre, dataLt e x = false) → minD x xs ∈ pre ++ xs ∧ ∀ e ∈ pre ++ xs, dataLt e (minD x xs) = false := by
    intro xs
    induction xs with
    | nil =>
      intro x pre h1 h2
      rw [List.append_nil]
      exact ⟨h1, h2⟩
    | cons y ys ih =>
      intro x pre h1 h2
      have e : pre ++ y :: ys = (pre ++ [y]) ++ ys := by simp
      rw [e]
      have e2 : minD x (y :: ys) = minD (if dataLt y x then y else x) ys := rfl
      rw [e2]
      refine ih _ _ ?_ ?_
      · split
        · simp
        · exact List.mem_append_left _ h1
      · intro z hz
        by_cases c : dataLt y x = true
        · rw [if_pos c]
          rcases List.mem_append.mp hz with hz | hz
          · cases q : dataLt z y with
            | false => rfl
            | true =>
              have := dLt_trans q c
              rw [h2 z hz] at this
              cases this
          · have : z = y := by simpa using hz
            rw [this]
            exact dLt_irr y
        · rw [if_neg c]
          rcases List.mem_append.mp hz with hz | hz
          · exact h2 z hz
          · have : z = y := by simpa using hz
            rw [this]
            simpa using c
  intro x
  exact main xs x [x] (List.mem_singleton.mpr rfl) fun e he => by
    rw [List.mem_singleton.mp he]
    exact dLt_irr x
theorem max_spec : ∀ (xs : List PyData) (x : PyData), maxD x xs ∈ x :: xs ∧ ∀ e ∈ x :: xs, dataLt (maxD x xs) e = false := by
  intro xs
  have main : ∀ (xs : List PyData) (x : PyData) (pre : List PyData), x ∈ pre → (∀ e ∈ pre, dataLt x e = false) → maxD x xs ∈ pre ++ xs ∧ ∀ e ∈ pre ++ xs, dataLt (maxD x xs) e = false := by
    intro xs
    induction xs with
    | nil =>
      intro x pre h1 h2
      rw [List.append_nil]
      exact ⟨h1, h2⟩
    | cons y ys ih =>
      intro x pre h1 h2
      have e : pre ++ y :: ys = (pre ++ [y]) ++ ys := by simp
      rw [e]
      have e2 : maxD x (y :: ys) = maxD (if dataLt x y then y else x) ys := rfl
      rw [e2]
      refine ih _ _ ?_ ?_
      · split
        · simp
        · exact List.mem_append_left _ h1
      · intro z hz
        by_cases c : dataLt x y = true
        · rw [if_pos c]
          rcases List.mem_append.mp hz with hz | hz
          · cases q : dataLt y z with
            | false => rfl
            | true =>
              have := dLt_trans c q
              rw [h2 z hz] at this
              cases this
          · have : z = y := by simpa using hz
            rw [this]
            exact dLt_irr y
        · rw [if_neg c]
          rcases List.mem_append.mp hz with hz | hz
          · exact h2 z hz
          · have : z = y := by simpa using hz
            rw [this]
            simpa using c
  intro x
  exact main xs x [x] (List.mem_singleton.mpr rfl) fun e he => by
    rw [List.mem_singleton.mp he]
    exact dLt_irr x

/-! ### min, max of a list of alike data -/
section
variable {X : Cx} {pins : List (Addr × Obj)} {σ : L2.St} {H : Hp} {s : Shared}
def rMinD (K : PySem.W.Frag) : List V → Hp → VK → Prop := fun vs H Q => ∃ (a : Addr) (xs : List V) (ds : List PyData), vs = [V.ref a] ∧ SqL K H a xs ∧ DpAll K H xs ds ∧ AlikeAll ds ∧ ds ≠ [] ∧ PyData.depthAll ds ≤ 60 ∧
  ∀ (i : Nat) (v : V) (d : PyData), xs[i]? = some v → ds[i]? = some d → (∀ e ∈ ds, dataLt e d = false) → Q v H
def rMaxD (K : PySem.W.Frag) : List V → Hp → VK → Prop := fun vs H Q => ∃ (a : Addr) (xs : List V) (ds : List PyData), vs = [V.ref a] ∧ SqL K H a xs ∧ DpAll K H xs ds ∧ AlikeAll ds ∧ ds ≠ [] ∧ PyData.depthAll ds ≤ 60 ∧
  ∀ (i : Nat) (v : V) (d : PyData), xs[i]? = some v → ds[i]? = some d → (∀ e ∈ ds, dataLt d e = false) → Q v H
theorem dpAll_get {K : PySem.W.Frag} {H : Hp} : ∀ {xs : List V} {ds : List PyData} {i : Nat} {v : V}, DpAll K H xs ds → xs[i]? = some v → ∃ d, ds[i]? = some d ∧ Dp K H v d
  | _, _, _, _, .nil, h => by simp at h
  | _, _, 0, _, .cons h1 h2, h => by
    have := Option.some.inj (show some _ = some _ from h)
    subst this
    exact ⟨_, rfl, h1⟩
  | _, _, i + 1, v, .cons h1 h2, h => dpAll_get (i := i) h2 (by simpa using h)
theorem ref1 {a : Addr} {us : List Value} (r : Vals [V.ref a] us) : us = [Value.ref a] := Vals.ref1 r
theorem vals_at : ∀ {xs : List V} {us : List Value} {i : Nat} {u : Value}, Vals xs us → us[i]? = some u → ∃ x, xs[i]? = some x ∧ RelV x u
  | _, _, _, _, .nil, e => by simp at e
  | _, _, 0, _, .cons r _, e => by
    have := Option.some.inj (show some _ = some _ from e)
    subst this
    exact ⟨_, rfl, r⟩
  | _, _, i + 1, u, .cons _ t, e => vals_at (i := i) t (by simpa using e)
theorem cr_minD (hc : X.calm = true) (hu : X.A.units + 64 < cLine) : CallR X (.builtin "min") (rMinD X.K) := by
  intro pins s σ H vs us Q I r h
  obtain ⟨a, xs, ds, rfl, hs, hd, hal, hne, hdep, q⟩ := h
  obtain ⟨its, rv, hl, _⟩ := I.list hs
  rw [ref1 r]
  obtain ⟨as, hr⟩ := Dp.readsAll I ds xs its hd rv
  obtain ⟨x, r', rfl⟩ : ∃ x r', ds = x :: r' := by
    cases ds with
    | nil => exact absurd rfl hne
    | cons x r' => exact ⟨x, r', rfl⟩
  refine min_list_data (I.ok.hd hc) hl.isList (show ReadsAll s.heap its.toArray.toList (x :: r') as from hr) hal (by omega) fun i v h' tk bs hv hrd hk => ?_
  have hv' : its[i]? = some v := by simpa using hv
  obtain ⟨y, hy, ry⟩ := vals_at rv hv'
  obtain ⟨d, hdi, hdp⟩ := dpAll_get hd hy
  obtain ⟨as2, hrd2⟩ := Dp.reads I d y v hdp ry
  have sp := min_spec r' x
  have e : d = minD x r' := alike_unique _ _ v _ _ (hal.1 _ (List.mem_of_getElem? hdi) _ sp.1) (reads_keeps hk hrd2) hrd
  have I' : Inv X pins σ H { s with heap := h', toks := tk } := I.kept (t' := tk) hk
  exact ⟨y, H, I', ry, q i y d hy hdi (by rw [e]; exact sp.2)⟩
theorem cr_maxD (hc : X.calm = true) (hu : X.A.units + 64 < cLine) : CallR X (.builtin "max") (rMaxD X.K) := by
  intro pins s σ H vs us Q I r h
  obtain ⟨a, xs, ds, rfl, hs, hd, hal, hne, hdep, q⟩ := h
  obtain ⟨its, rv, hl, _⟩ := I.list hs
  rw [ref1 r]
  obtain ⟨as, hr⟩ := Dp.readsAll I ds xs its hd rv
  obtain ⟨x, r', rfl⟩ : ∃ x r', ds = x :: r' := by
    cases ds with
    | nil => exact absurd rfl hne
    | cons x r' => exact ⟨x, r', rfl⟩
  refine max_list_data (I.ok.hd hc) hl.isList (show ReadsAll s.heap its.toArray.toList (x :: r') as from hr) hal (by omega) fun i v h' tk bs hv hrd hk => ?_
  have hv' : its[i]? = some v := by simpa using hv
  obtain ⟨y, hy, ry⟩ := vals_at rv hv'
  obtain ⟨d, hdi, hdp⟩ := dpAll_get hd hy
  obtain ⟨as2, hrd2⟩ := Dp.reads I d y v hdp ry
  have sp := max_spec r' x
  have e : d = maxD x r' := alike_unique _ _ v _ _ (hal.1 _ (List.mem_of_getElem? hdi) _ sp.1) (reads_keeps hk hrd2) hrd
  have I' : Inv X pins σ H { s with heap := h', toks := tk } := I.kept (t' := tk) hk
  exact ⟨y, H, I', ry, q i y d hy hdi (by rw [e]; exact sp.2)⟩
end

/-! ### sorted of tuples whose first is empty -/
section
variable {prog : Program} {w : World} {A : Around} {s : Shared}
/-- the call of tuple's own __lt__ -/
theorem call_tuple_lt {E : Value → Shared → Prop} {Q : Value → Shared → Prop} {l b : Addr} {items items2 : Array Value} {e r : Nat → Bool} (hl : s.heap.IsTuple l items) (hb : s.heap.IsTuple b items2)
    (he : ∀ j (h1 : j < items.size) (h2 : j < items2.size), EqAt A.in1 s items[j] items2[j] (e j)) (hr : ∀ j (h1 : j < items.size) (h2 : j < items2.size), e j = false → RcLt A.in1 s items[j] items2[j] (r j))
    (h : Q (.bool (firstLt e r (decide (items.size < items2.size)) (List.range (min items.size items2.size)))) s) : wpAny (model prog w) A (call (.builtin "tuple.__lt__") [.ref l, .ref b]) Q E s := by
  obtain ⟨⟨cls, dd, data, sl⟩, ho, hc, n, hd⟩ := id hl
  obtain ⟨⟨cls2, dd2, data2, sl2⟩, ho2, hc2, n2, hd2⟩ := id hb
  simp only at hc hd hc2 hd2
  subst hc hd hc2 hd2
  exact call_meets F.slot_tuple_lt ⟨_, ho, rfl⟩ F.entry_tuple_lt (F.args_tuple_lt_2 _ _) (tuple_ltAt l b items items2 n n2 dd dd2 sl sl2 e r) ⟨ho, ho2, he, hr, h⟩
theorem oneLt_tuples {xs ys : List PyData} {a b : Value} {as bs : List Addr} {E : Value → Shared → Prop} {Q : Bool → Shared → Prop} (ra : Reads s.heap a (.tuple xs) as) (rb : Reads s.heap b (.tuple ys) bs) (h : alike (.tuple xs) (.tuple ys) = true)
    (hu : A.units + min (PyData.tuple xs).depth (PyData.tuple ys).depth < cLine) (hq : Q (dataLt (.tuple xs) (.tuple ys)) s) : wpAny (model prog w) A (oneLt' true a b) Q E s := by
  have hal : alikeAll xs ys = true := by simpa [alike] using h
  cases ra with
  | @tuple l o vs n _ as₁ h1 h2 h3 h4 =>
    cases rb with
    | @tuple l' o' vs' n' _ bs₁ k1 k2 k3 k4 =>
      have n1 : vs.size = xs.length := by simpa using ReadsAll.length _ _ _ h4
      have n2 : vs'.size = ys.length := by simpa using ReadsAll.length _ _ _ k4
      rw [dataLt_tuple, ← firstLt_toks xs ys hal, ← n1, ← n2] at hq
      rw [oneLt'_eq]
      simp only [if_true]
      refine wpAny_bind (wpAny_cRoomFor (room_here hu) ?_)
      refine wpAny_bind (wpAny_callSpecialIfBound?_slot (T := "tuple") ⟨_, h1, h2⟩ F.slot_tuple_lt (call_tuple_lt (e := pairEq xs ys) (r := fun j => dataLt (xs.getD j .none) (ys.getD j .none)) ⟨_, h1, h2, _, h3⟩ ⟨_, k1, k2, _, k3⟩ (fun j j1 j2 => ?_) (fun j j1 j2 hj => ?_) ?_))
      · have := eqAt_alikeAll xs ys A.in1 s vs.toList vs'.toList _ _ h4 k4 hal (room_in hu) j (by simpa using j1) (by simpa using j2)
        simpa using this
      · have := rcLt_alikeAll xs ys A.in1 s vs.toList vs'.toList _ _ h4 k4 hal (room_in hu) j (by simpa using j1) (by simpa using j2) hj
        simpa using this
      · exact wpAny_truthy_bool hq
/-- the first items of tuples -/
def Tups (h : Heap) : List Value → List (Array Value) → Prop := Paired fun v xs => ∃ a o n, v = .ref a ∧ h.get? a = some o ∧ o.cls = .type "tuple" ∧ o.data = .seq xs n
theorem firsts_of {M : Model} {E : Value → Shared → Prop} : ∀ {vs : List Value} {xss : List (Array Value)} {Q : List (Option Value) → Shared → Prop}, Tups s.heap vs xss → Q (xss.map (·[0]?)) s → wpAny M A (vs.mapM firstOfTuple') Q E s
  | _, _, _, .nil, h => by
    rw [List.mapM_nil]
    exact wpAny_pure h
  | _, _, Q, .cons (a := v) (b := xs) (l₁ := vs) (l₂ := xss) q t, h => by
    obtain ⟨a, o, n, rfl, ho, hc, hd⟩ := q
    rw [List.mapM_cons]
    refine wpAny_bind ?_
    rw [kas_first_eq]
    refine wpAny_bind (Looks.here (show Looks M s.heap (typeOf (.ref a)) o.cls from (Looks.ld ho).andThen .now) ?_)
    rw [hc, if_neg (by first | decide | simp)]
    refine wpAny_bind (listItems_at ho hd (wpAny_pure ?_))
    exact wpAny_bind (firsts_of (Q := fun bs s' => wpAny M A (pure (xs[0]? :: bs)) Q E s') t (wpAny_pure h))
theorem kind_empty {M : Model} {E : Value → Shared → Prop} {vs : List Value} {xss : List (Array Value)} {Q : SortKind → Shared → Prop} (t : Tups s.heap vs (#[] :: xss)) (h : Q oneType' s) : wpAny M A (keyKind' vs.toArray) Q E s := by
  have hT : ∀ v ∈ vs, Looks M s.heap (typeOf v) (.type "tuple") := by
    have main : ∀ {vs : List Value} {xss : List (Array Value)}, Tups s.heap vs xss → ∀ v ∈ vs, Looks M s.heap (typeOf v) (.type "tuple") := by
      intro vs xss t
      induction t with
      | nil => intro v hv; cases hv
      | cons q _ ih =>
        intro v hv
        rcases List.mem_cons.mp hv with e | hv
        · obtain ⟨a, o, n, e2, ho, hc, hd⟩ := q
          rw [e, e2]
          exact hc ▸ (Looks.ld ho).andThen .now
        · exact ih v hv
    exact main t
  rw [kat_kind_eq, List.mapM_toArray, map_eq_pure_bind]
  refine wpAny_bind (wpAny_bind (firsts_of t (wpAny_pure ?_)))
  have hall : ¬ (((#[] :: xss).map fun xs : Array Value => xs[0]?).toArray.all fun x => x.isSome) = true := by simp
  rw [if_neg hall]
  have h0 : ¬ ((((#[] :: xss).map fun xs : Array Value => xs[0]?).toArray[0]?.bind id).isSome) = true := by simp
  rw [if_neg h0]
  rw [oneTypeOnly'_eq, List.mapM_toArray, map_eq_pure_bind]
  refine wpAny_bind (wpAny_bind (wpAny_bind (kas_mapM (r := Value.type "tuple") _ (fun v hv Q' hq => (hT v hv).here hq) (wpAny_pure ?_))))
  have hall : ((List.map (fun _ => Value.type "tuple") vs).toArray.all fun x => x == Value.type "tuple") = true := by
    simp only [List.all_toArray, List.all_map, List.all_eq_true]
    intro _ _
    exact beq_self_eq_true _
  obtain ⟨v, r, e⟩ : ∃ v r, vs = v :: r := by
    cases t with
    | cons q t => exact ⟨_, _, rfl⟩
  have h1 : (List.map (fun _ => Value.type "tuple") vs).toArray[0]? = some (Value.type "tuple") := by rw [e]; simp
  rw [h1]
  simp only [hall, if_true]
  exact wpAny_pure (wpAny_pure h)
theorem tups_of {h : Heap} : ∀ {vs : List Value} {ds : List PyData} {as : List Addr}, ReadsAll h vs ds as → (∀ d ∈ ds, ∃ xs, d = .tuple xs) → ∃ xss, Tups h vs xss ∧ xss.map Array.size = ds.map fun d => match d with | .tuple xs => xs.length | _ => 0
  | _, _, _, .nil, _ => ⟨[], .nil, rfl⟩
  | _, _, _, .cons (d := d) (ds := ds) r rs, ht => by
    obtain ⟨xss, t, e⟩ := tups_of rs fun d hd => ht d (List.mem_cons_of_mem _ hd)
    obtain ⟨xs, rfl⟩ := ht _ (List.mem_cons_self ..)
    cases r with
    | @tuple a o vs' n _ _ ho hc hd hr =>
      exact ⟨vs' :: xss, .cons ⟨a, o, n, rfl, ho, hc, hd⟩ t, by
        rw [List.map_cons, List.map_cons, e]
        have := ReadsAll.length _ _ _ hr
        rw [Array.length_toList] at this
        rw [this]⟩
theorem sorts_tuples {vs : List Value} {ds : List PyData} {as : List Addr} (hr : ReadsAll s.heap vs (.tuple [] :: ds) as) (ht : ∀ d ∈ ds, ∃ xs, d = .tuple xs) (hal : AllAlike (.tuple [] :: ds)) (hu : ∀ d ∈ PyData.tuple [] :: ds, A.units + d.depth < cLine) :
    SortsAt prog w A s (dataKind s.heap (.tuple [] :: ds)) vs := by
  have ht' : ∀ d ∈ PyData.tuple [] :: ds, ∃ xs, d = .tuple xs := fun d hd => by
    rcases List.mem_cons.mp hd with e | hd
    · exact ⟨[], e⟩
    · exact ht d hd
  refine ⟨fun v hv => ?_, oneType', ?_, fun _ E Q hq => ?_⟩
  · obtain ⟨i, hi⟩ := List.getElem?_of_mem hv
    obtain ⟨bs, h1, _, h3, _⟩ := readsAll_at hr i v hi
    exact ⟨_, dataKind_some hal h3 h1⟩
  · intro E x y a b Q ha hb hq
    rw [keyLt'_oneType]
    obtain ⟨d, as, hd, ra, rfl⟩ := dataKind_inv ha
    obtain ⟨d', as', hd', rb, rfl⟩ := dataKind_inv hb
    obtain ⟨xs, rfl⟩ := ht' d hd
    obtain ⟨ys, rfl⟩ := ht' d' hd'
    exact oneLt_tuples ra rb (hal _ hd _ hd') (Nat.lt_of_le_of_lt (Nat.add_le_add_left (Nat.min_le_left _ _) _) (hu _ hd)) hq
  · obtain ⟨xss, t, e⟩ := tups_of hr ht'
    cases xss with
    | nil => simp at e
    | cons z r =>
      have ez : z.size = 0 := by
        have := (List.cons.inj e).1
        simpa using this
      have ez' : z = #[] := Array.eq_empty_of_size_eq_zero ez
      subst ez'
      exact kind_empty t hq
end
section
variable {X : Cx} {pins : List (Addr × Obj)} {σ : L2.St} {H : Hp} {s : Shared}
/-- sorted(xs), xs a list of tuples, the first of them empty: some arrangement -/
def rSortE (K : PySem.W.Frag) : List V → Hp → VK → Prop := fun vs H Q => ∃ (a : Addr) (xs : List V) (ds : List PyData), vs = [V.ref a] ∧ SqL K H a xs ∧ DpAll K H xs (.tuple [] :: ds) ∧ (∀ d ∈ ds, ∃ zs, d = .tuple zs) ∧ AllAlike (.tuple [] :: ds) ∧
  (∀ d ∈ PyData.tuple [] :: ds, d.depth ≤ 32) ∧ ∀ (ys : List V) (p : Addr), ys.Perm xs → H p = none → Q (.ref p) (upd H p (.lst ys))
theorem mem_zip {α β : Type} {R : α → β → Prop} : ∀ {l : List α} {m : List β}, Paired R l m → ∀ p ∈ l.zip m, R p.1 p.2
  | _, _, .nil, p, h => by simp at h
  | _, _, .cons r t, p, h => by
    rw [List.zip_cons_cons] at h
    rcases List.mem_cons.mp h with e | h
    · rw [e]
      exact r
    · exact mem_zip t p h
theorem each_of {R : Value → V → Prop} : ∀ {xs : List V} {us : List Value}, Vals xs us → (∀ x u, RelV x u → R u x) → EachIs R us xs
  | _, _, .nil, _ => .nil
  | _, _, .cons r t, h => .cons (h _ _ r) (each_of t h)
theorem vals_of_each : ∀ {us : List Value} {xs : List V}, EachIs (fun u x => RelV x u) us xs → Vals xs us
  | _, _, .nil => .nil
  | _, _, .cons r t => .cons r (vals_of_each t)
theorem sortVals_perm {κ : PyProof.Rows.KeyKind} (rev : Bool) {vs : List Value} : (sortVals κ rev vs vs).Perm vs := by
  unfold sortVals
  refine ((List.mergeSort_perm _ _).map Prod.snd).trans ?_
  have e : (vs.zip vs).map Prod.snd = vs := List.map_snd_zip (Nat.le_refl _)
  rw [e]
/-- a rearrangement of the values is one of what they stand for -/
theorem vals_perm {us us' : List Value} (h : us'.Perm us) : ∀ {xs : List V}, Vals xs us → ∃ xs', xs'.Perm xs ∧ Vals xs' us' := by
  induction h with
  | nil => intro xs r; exact ⟨xs, List.Perm.refl _, r⟩
  | cons x _ ih =>
    intro xs r
    cases r with
    | cons r t =>
      obtain ⟨xs', p, v⟩ := ih t
      exact ⟨_ :: xs', p.cons _, .cons r v⟩
  | swap x y l =>
    intro xs r
    cases r with
    | cons r t =>
      cases t with
      | cons r' t => exact ⟨_ :: _ :: _, List.Perm.swap .., .cons r' (.cons r t)⟩
  | trans _ _ ih1 ih2 =>
    intro xs r
    obtain ⟨x1, p1, v1⟩ := ih2 r
    obtain ⟨x2, p2, v2⟩ := ih1 v1
    exact ⟨x2, p2.trans p1, v2⟩
theorem cr_sortE (hu : X.A.units + 64 < cLine) : CallR X (.builtin "sorted") (rSortE X.K) := by
  intro pins s σ H vs us Q I r h
  obtain ⟨a, xs, ds, rfl, hs, hd, ht, hal, hdep, q⟩ := h
  obtain ⟨its, rv, hl, hlen⟩ := I.list hs
  rw [ref1 r]
  obtain ⟨as, hr⟩ := Dp.readsAll I _ xs its hd rv
  have hL : its.length ≤ sizeLine := by rw [← rv.length]; exact hlen
  have hr' := ReadsAll.keeps (h' := sortingHeap (copyHeap s.heap its) (s.heap.objs.size + 1) its) (fun _ _ => sorting_copy_old) hr
  refine sorted_vals hl.isList (sorts_tuples (A := X.A.in1.in1) (s := { s with heap := sortingHeap (copyHeap s.heap its) (s.heap.objs.size + 1) its }) hr' ht hal fun d hd => ?_) hL ?_
  · have := hdep d hd
    show X.A.units + 1 + 1 + _ < _
    omega
  · obtain ⟨ys, p, rv'⟩ := vals_perm (sortVals_perm false) rv
    obtain ⟨ep, he'⟩ := PyProof.Rows.sortedAll_at s.heap its (sortVals (dataKind (sortingHeap (copyHeap s.heap its) (s.heap.objs.size + 1) its) (PyData.tuple [] :: ds)) false its its).toArray
    have hlen' : ys.length ≤ sizeLine := by rw [p.length_eq]; exact hlen
    exact ⟨.ref _, upd H (s.heap.objs.size + 1) (.lst ys), I.laid (t' := s.toks) (fun _ _ => PyProof.Rows.sortedAll_old) (Nat.le_succ _) ⟨hlen', _, ep, rv', he'⟩, rfl, q ys _ p (I.hok.fresh (Nat.le_succ _))⟩
end
end K06R

set_option maxRecDepth 100000
/-! The text: the defs of the row's top. -/
namespace K06P
open PySem PySem.Spec PyProof.Rows L2
def topS (i : Nat) : Stmt := PySem.Challenge.pw_firstthere_k06_whole_needed_lots.main.body.getD i (.Pass ⟨0, 0, 0, 0⟩)
abbrev sIsIn : Stmt := topS 7
abbrev sAreDep : Stmt := topS 8
abbrev sNeedDep : Stmt := topS 9
abbrev sIsLot : Stmt := topS 10
abbrev sNeedPer : Stmt := topS 11
abbrev sChain : Stmt := topS 12
abbrev sHolder : Stmt := topS 13
abbrev sHolders : Stmt := topS 14
abbrev sLoads : Stmt := topS 15
abbrev sLots : Stmt := topS 16
abbrev sNeedHold : Stmt := topS 18
abbrev sLeastGone : Stmt := topS 21
abbrev sNeedWant : Stmt := topS 22
abbrev sLoaded : Stmt := topS 23
abbrev sFewest : Stmt := topS 24
abbrev sShowsF : Stmt := topS 25
abbrev sLoadLots : Stmt := topS 26
abbrev sNeedMost : Stmt := topS 27
abbrev sLoadOf : Stmt := topS 28
abbrev sGreatOf : Stmt := topS 29
abbrev sGreatest : Stmt := topS 30
abbrev sShowsG : Stmt := topS 31
abbrev sTaken : Stmt := topS 33
abbrev sAlike : Stmt := topS 35
abbrev sLDep : Stmt := topS 36
abbrev sLHolder : Stmt := topS 39
abbrev sLHolders : Stmt := topS 40
abbrev sLLots : Stmt := topS 41
abbrev sLaw : Stmt := topS 45
theorem scIsIn : FnScope ["value", "least", "most"] ["value", "least", "most"] (defScope sIsIn) := ⟨rfl, rfl, rfl, by decide +kernel, rfl, by decide +kernel, by decide +kernel⟩
theorem scAreDep : FnScope ["value"] ["value"] (defScope sAreDep) := ⟨rfl, rfl, rfl, by decide +kernel, rfl, by decide +kernel, by decide +kernel⟩
theorem scNeedDep : FnScope ["deputies"] ["deputies"] (defScope sNeedDep) := ⟨rfl, rfl, rfl, by decide +kernel, rfl, by decide +kernel, by decide +kernel⟩
theorem scIsLot : FnScope ["size", "value"] ["size", "value"] (defScope sIsLot) := ⟨rfl, rfl, rfl, by decide +kernel, rfl, by decide +kernel, by decide +kernel⟩
theorem scNeedPer : FnScope ["deputies", "person"] ["deputies", "person"] (defScope sNeedPer) := ⟨rfl, rfl, rfl, by decide +kernel, rfl, by decide +kernel, by decide +kernel⟩
theorem scChain : FnScope ["deputies", "person", "found", "here"] ["deputies", "person"] (defScope sChain) := ⟨rfl, rfl, rfl, by decide +kernel, rfl, by decide +kernel, by decide +kernel⟩
theorem scHolder : FnScope ["deputies", "gone", "person", "one"] ["deputies", "gone", "person"] (defScope sHolder) := ⟨rfl, rfl, rfl, by decide +kernel, rfl, by decide +kernel, by decide +kernel⟩
theorem scHolders : FnScope ["deputies", "gone", "person"] ["deputies", "gone"] (defScope sHolders) := ⟨rfl, rfl, rfl, by decide +kernel, rfl, by decide +kernel, by decide +kernel⟩
theorem scLoads : FnScope ["deputies", "gone", "found", "person"] ["deputies", "gone"] (defScope sLoads) := ⟨rfl, rfl, rfl, by decide +kernel, rfl, by decide +kernel, by decide +kernel⟩
theorem scLots : FnScope ["size", "found", "person", "lot"] ["size"] (defScope sLots) := ⟨rfl, rfl, rfl, by decide +kernel, rfl, by decide +kernel, by decide +kernel⟩
theorem scNeedHold : FnScope ["deputies", "other"] ["deputies", "other"] (defScope sNeedHold) := ⟨rfl, rfl, rfl, by decide +kernel, rfl, by decide +kernel, by decide +kernel⟩
theorem scLeastGone : FnScope ["deputies", "person", "other", "some"] ["deputies", "person", "other"] (defScope sLeastGone) := ⟨rfl, rfl, rfl, by decide +kernel, rfl, by decide +kernel, by decide +kernel⟩
theorem scNeedWant : FnScope ["deputies", "person", "many"] ["deputies", "person", "many"] (defScope sNeedWant) := ⟨rfl, rfl, rfl, by decide +kernel, rfl, by decide +kernel, by decide +kernel⟩
theorem scLoaded : FnScope ["deputies", "person", "many", "found", "lot"] ["deputies", "person", "many"] (defScope sLoaded) := ⟨rfl, rfl, rfl, by decide +kernel, rfl, by decide +kernel, by decide +kernel⟩
theorem scFewest : FnScope ["deputies", "person", "many", "some", "lot"] ["deputies", "person", "many"] (defScope sFewest) := ⟨rfl, rfl, rfl, by decide +kernel, rfl, by decide +kernel, by decide +kernel⟩
theorem scShowsF : FnScope ["deputies", "person", "many", "value", "some", "lot"] ["deputies", "person", "many", "value"] (defScope sShowsF) := ⟨rfl, rfl, rfl, by decide +kernel, rfl, by decide +kernel, by decide +kernel⟩
theorem scLoadLots : FnScope ["deputies", "person", "many"] ["deputies", "person", "many"] (defScope sLoadLots) := ⟨rfl, rfl, rfl, by decide +kernel, rfl, by decide +kernel, by decide +kernel⟩
theorem scNeedMost : FnScope ["deputies", "many"] ["deputies", "many"] (defScope sNeedMost) := ⟨rfl, rfl, rfl, by decide +kernel, rfl, by decide +kernel, by decide +kernel⟩
theorem scLoadOf : FnScope ["deputies", "lot"] ["deputies", "lot"] (defScope sLoadOf) := ⟨rfl, rfl, rfl, by decide +kernel, rfl, by decide +kernel, by decide +kernel⟩
theorem scGreatOf : FnScope ["deputies", "many", "lot"] ["deputies", "many"] (defScope sGreatOf) := ⟨rfl, rfl, rfl, by decide +kernel, rfl, by decide +kernel, by decide +kernel⟩
theorem scGreatest : FnScope ["deputies", "many"] ["deputies", "many"] (defScope sGreatest) := ⟨rfl, rfl, rfl, by decide +kernel, rfl, by decide +kernel, by decide +kernel⟩
theorem scShowsG : FnScope ["deputies", "many", "value", "best"] ["deputies", "many", "value"] (defScope sShowsG) := ⟨rfl, rfl, rfl, by decide +kernel, rfl, by decide +kernel, by decide +kernel⟩
theorem scTaken : FnScope ["_law_row", "_law_many", "_law_found", "_law_cell"] ["_law_row", "_law_many"] (defScope sTaken) := ⟨rfl, rfl, rfl, by decide +kernel, rfl, by decide +kernel, by decide +kernel⟩
theorem scAlike : FnScope ["_law_found", "_law_due", "_law_k"] ["_law_found", "_law_due"] (defScope sAlike) := ⟨rfl, rfl, rfl, by decide +kernel, rfl, by decide +kernel, by decide +kernel⟩
theorem scLDep : FnScope ["_law_row", "_law_size", "_law_found", "_law_person", "_law_one"] ["_law_row", "_law_size"] (defScope sLDep) := ⟨rfl, rfl, rfl, by decide +kernel, rfl, by decide +kernel, by decide +kernel⟩
theorem scLHolder : FnScope ["_law_deputies_here", "_law_gone", "_law_person", "_law_here", "_law_seen", "_law_turn"] ["_law_deputies_here", "_law_gone", "_law_person"] (defScope sLHolder) := ⟨rfl, rfl, rfl, by decide +kernel, rfl, by decide +kernel, by decide +kernel⟩
theorem scLHolders : FnScope ["_law_deputies_here", "_law_gone", "_law_k"] ["_law_deputies_here", "_law_gone"] (defScope sLHolders) := ⟨rfl, rfl, rfl, by decide +kernel, rfl, by decide +kernel, by decide +kernel⟩
theorem scLLots : FnScope ["_law_size", "_law_found", "_law_person", "_law_lot_here"] ["_law_size"] (defScope sLLots) := ⟨rfl, rfl, rfl, by decide +kernel, rfl, by decide +kernel, by decide +kernel⟩
theorem scLaw : FnScope ["_law_script", "_law_row", "_law_size", "_law_deputies_here", "_law_person", "_law_other", "_law_many", "_law_lots_here", "_law_some", "_law_least", "_law_value", "_law_due", "_law_tops", "_law_best", "_law_found", "_law_lot_here", "_law_one", "_law_k"] ["_law_script"] (defScope sLaw) := ⟨rfl, rfl, rfl, by decide +kernel, rfl, by decide +kernel, by decide +kernel⟩
end K06P

set_option maxRecDepth 100000
set_option maxHeartbeats 4000000
/-! Raw evaluation of quiet expressions; is_in as a generator's element calls it. -/
namespace K06P
open PySem PySem.Spec PyProof.Rows L2

def Grow (h h' : Heap) : Prop := ∀ b o, h.get? b = some o → h'.get? b = some o
theorem Grow.refl (h : Heap) : Grow h h := fun _ _ e => e
theorem Grow.trans {a b c : Heap} (x : Grow a b) (y : Grow b c) : Grow a c := fun d o e => y d o (x d o e)
theorem keeps_grow {s s' : Shared} (k : Keeps s s') : Grow s.heap s'.heap := by
  obtain ⟨h', tk, rfl, q⟩ := k
  exact q
theorem keeps_rfl (s : Shared) : Keeps s s := ⟨s.heap, s.toks, rfl, fun _ _ e => e⟩
theorem keeps_tk (s : Shared) (k : Nat) : Keeps s { s with toks := k } := ⟨s.heap, k, rfl, fun _ _ e => e⟩
theorem keeps_trans {a b c : Shared} (x : Keeps a b) (y : Keeps b c) : Keeps a c := by
  obtain ⟨h1, t1, rfl, k1⟩ := x
  obtain ⟨h2, t2, rfl, k2⟩ := y
  exact ⟨h2, t2, rfl, fun d o e => k2 d o (k1 d o e)⟩

section
variable {prog : Program} {w : World} {K : PySem.W.Frag} {mg : Str → Option Value} {A : Around} {env : Env} {h0 : Heap}
/-- e, evaluated anywhere above h0, gives a v of which P holds and adds to the heap alone -/
def Ev (prog : Program) (w : World) (A : Around) (env : Env) (h0 : Heap) (e : Expr) (P : Value → Prop) : Prop :=
  ∀ (s : Shared) (Q : Value → Shared → Prop) (E : Value → Shared → Prop), Grow h0 s.heap → (∀ v s', P v → Keeps s s' → Q v s') → wpAny (model prog w) A (eval e env) Q E s
theorem Ev.imp {e : Expr} {P P' : Value → Prop} (h : Ev prog w A env h0 e P) (i : ∀ v, P v → P' v) : Ev prog w A env h0 e P' := fun s Q E g q => h s Q E g fun v s' p k => q v s' (i v p) k
abbrev isI (i : Int) (v : Value) : Prop := ∃ t, v = .int i t
abbrev isB (b : Bool) (v : Value) : Prop := v = .bool b
/-- the world at h0 -/
structure Wd (K : PySem.W.Frag) (mg : Str → Option Value) (h0 : Heap) (env : Env) : Prop where
  mod : L2.Mod K mg h0
  kind : env.scope.kind = .function
  glob : env.globals = mainGlobals
  blt : env.builtins = builtinsNs
theorem mod_grow {K : PySem.W.Frag} {mg : Str → Option Value} {h h' : Heap} (m : L2.Mod K mg h) (g : Grow h h') : L2.Mod K mg h' :=
  ⟨m.kin.keeps g, m.glob.keeps g, let ⟨mb, h1, h2⟩ := m.blt; ⟨mb, h1.keeps g, h2⟩, m.nolimit.keeps g⟩

theorem ev_loc {x : Str} {pos : Pos} {m : Str → Option Value} {v : Value} (hk : env.scope.kind = .function) (hl : env.kindOf x = some .local) (hn : h0.Ns env.locals m) (hm : m x = some v) (hd : (x == ("__debug__" : Str)) = false := by decide) :
    Ev prog w A env h0 (.Name x pos) (fun u => u = v) := fun s Q E g q =>
  wpAny_Name (wpAny_loadName_local hk hl (hn.keeps g) hm (q v s rfl (keeps_rfl s))) hd
theorem ev_free {x : Str} {pos : Pos} {c : Addr} {v : Value} (hk : env.scope.kind = .function) (hl : env.kindOf x = some .free) (hc : env.cells.lookup x = some c) (hv : h0.IsCell c (some v)) (hd : (x == ("__debug__" : Str)) = false := by decide) (hcd : (x == ("__classdict__" : Str)) = false := by decide) :
    Ev prog w A env h0 (.Name x pos) (fun u => u = v) := fun s Q E g q =>
  wpAny_Name (wpAny_loadName_free hk hl hc (let ⟨o, ho, hd⟩ := hv; ⟨o, g _ _ ho, hd⟩) (q v s rfl (keeps_rfl s)) hcd) hd
theorem ev_int {i : Int} {j pos} : Ev prog w A env h0 (.Constant (.int i) j pos) (isI i) := fun s Q E g q => wpAny_Constant_int (q _ _ ⟨_, rfl⟩ (keeps_tk s _))
theorem ev_blt {x : Str} {pos : Pos} {v : Value} (W : Wd K mg h0 env) (hx : env.kindOf x = some .globalImplicit) (hm : mg x = none) (hv : bootBuiltins x = some v) (hn : x ≠ "__name__" := by decide) (hd : (x == ("__debug__" : Str)) = false := by decide) :
    Ev prog w A env h0 (.Name x pos) (fun u => u = v) := fun s Q E g q => by
  have M := mod_grow W.mod g
  obtain ⟨mb, h1, h2⟩ := M.blt
  exact Calls.Name_function_global W.kind hx (Calls.loadGlobal_builtin (by rw [W.glob]; exact M.glob) hm (by rw [W.blt]; exact h1) ((h2 x hn).trans hv) (q v s rfl (keeps_rfl s))) hd
theorem ev_glob {x : Str} {pos : Pos} {v : Value} (W : Wd K mg h0 env) (hx : env.kindOf x = some .globalImplicit) (hm : mg x = some v) (hd : (x == ("__debug__" : Str)) = false := by decide) :
    Ev prog w A env h0 (.Name x pos) (fun u => u = v) := fun s Q E g q => by
  have M := mod_grow W.mod g
  exact Calls.Name_function_global W.kind hx (Calls.loadGlobal_global (by rw [W.glob]; exact M.glob) hm (q v s rfl (keeps_rfl s))) hd
theorem ev_neg {e : Expr} {pos : Pos} {i : Int} (h : Ev prog w A env h0 e (isI i)) : Ev prog w A env h0 (.UnaryOp .USub e pos) (isI (-i)) := fun s Q E g q => by
  refine UnaryOp_ (h s _ _ g fun v s' p k => ?_)
  obtain ⟨t, rfl⟩ := p
  exact neg_int (q _ _ ⟨_, rfl⟩ (keeps_trans k (keeps_tk s' _)))
theorem ev_not {e : Expr} {pos : Pos} {b : Bool} (h : Ev prog w A env h0 e (isB b)) : Ev prog w A env h0 (.UnaryOp .Not e pos) (isB (!b)) := fun s Q E g q => by
  refine UnaryOp_ (h s _ _ g fun v s' p k => ?_)
  cases p
  exact not_of (wpAny_truthy_bool (q _ _ rfl k))
theorem ev_bin {a b : Expr} {pos : Pos} {op : Operator} {P R : Value → Prop} {T : Value → Prop} (ha : Ev prog w A env h0 a P) (hb : Ev prog w A env h0 b R)
    (op_ok : ∀ v u (s : Shared) (Q : Value → Shared → Prop) (E : Value → Shared → Prop), P v → R u → (∀ z s', T z → Keeps s s' → Q z s') → wpAny (model prog w) A (binaryOp op v u) Q E s) : Ev prog w A env h0 (.BinOp a op b pos) T := fun s Q E g q => by
  refine wpAny_BinOp (ha s _ _ g fun v s1 p k1 => hb s1 _ _ (g.trans (keeps_grow k1)) fun u s2 r k2 => ?_)
  exact op_ok v u s2 Q E p r fun z s3 t k3 => q z s3 t (keeps_trans k1 (keeps_trans k2 k3))
theorem ev_sub {a b : Expr} {pos : Pos} {i j : Int} (ha : Ev prog w A env h0 a (isI i)) (hb : Ev prog w A env h0 b (isI j)) : Ev prog w A env h0 (.BinOp a .Sub b pos) (isI (i - j)) :=
  ev_bin ha hb fun v u s Q E p r q => by
    obtain ⟨t, rfl⟩ := p
    obtain ⟨t', rfl⟩ := r
    exact sub_int (q _ _ ⟨_, rfl⟩ (keeps_tk s _))
theorem ev_add {a b : Expr} {pos : Pos} {i j : Int} (ha : Ev prog w A env h0 a (isI i)) (hb : Ev prog w A env h0 b (isI j)) : Ev prog w A env h0 (.BinOp a .Add b pos) (isI (i + j)) :=
  ev_bin ha hb fun v u s Q E p r q => by
    obtain ⟨t, rfl⟩ := p
    obtain ⟨t', rfl⟩ := r
    exact add_int (q _ _ ⟨_, rfl⟩ (keeps_tk s _))
theorem ev_cmp {a b : Expr} {pos : Pos} {op : CmpOp} {P R : Value → Prop} {T : Value → Prop} (ha : Ev prog w A env h0 a P) (hb : Ev prog w A env h0 b R)
    (op_ok : ∀ v u (s : Shared) (Q : Value → Shared → Prop) (E : Value → Shared → Prop), P v → R u → (∀ z s', T z → Keeps s s' → Q z s') → wpAny (model prog w) A (compareOp op v u) Q E s)
    (hm : behindInMarks op b = false := by with_unfolding_all rfl) : Ev prog w A env h0 (.Compare a [op] [b] pos) T := fun s Q E g q => by
  refine wpAny_Compare1 (ha s _ _ g fun v s1 p k1 => hb s1 _ _ (g.trans (keeps_grow k1)) fun u s2 r k2 => ?_) hm
  exact op_ok v u s2 Q E p r fun z s3 t k3 => q z s3 t (keeps_trans k1 (keeps_trans k2 k3))
theorem ev_lt {a b : Expr} {pos : Pos} {i j : Int} (ha : Ev prog w A env h0 a (isI i)) (hb : Ev prog w A env h0 b (isI j)) (hm : behindInMarks .Lt b = false := by with_unfolding_all rfl) : Ev prog w A env h0 (.Compare a [.Lt] [b] pos) (isB (decide (i < j))) :=
  ev_cmp ha hb (fun v u s Q E p r q => by
    obtain ⟨t, rfl⟩ := p
    obtain ⟨t', rfl⟩ := r
    exact P.lt_int (q _ _ rfl (keeps_rfl s))) hm
theorem ev_ne {a b : Expr} {pos : Pos} {i j : Int} (ha : Ev prog w A env h0 a (isI i)) (hb : Ev prog w A env h0 b (isI j)) (hm : behindInMarks .NotEq b = false := by with_unfolding_all rfl) : Ev prog w A env h0 (.Compare a [.NotEq] [b] pos) (isB (i != j)) :=
  ev_cmp ha hb (fun v u s Q E p r q => by
    obtain ⟨t, rfl⟩ := p
    obtain ⟨t', rfl⟩ := r
    exact P.ne_int (q _ _ rfl (keeps_rfl s))) hm
theorem ev_chain {a b c : Expr} {pos : Pos} {i j k : Int} (ha : Ev prog w A env h0 a (isI i)) (hb : Ev prog w A env h0 b (isI j)) (hc : Ev prog w A env h0 c (isI k)) (hm : lastMarks [CmpOp.LtE, CmpOp.LtE] [b, c] = false := by with_unfolding_all rfl) :
    Ev prog w A env h0 (.Compare a [.LtE, .LtE] [b, c] pos) (isB (decide (i ≤ j) && decide (j ≤ k))) := fun s Q E g q => by
  refine Compare_chain (ha s _ _ g fun v s1 p k1 => chain_link (hb s1 _ _ (g.trans (keeps_grow k1)) fun u s2 r k2 => ?_)) hm
  obtain ⟨t, rfl⟩ := p
  obtain ⟨t', rfl⟩ := r
  refine P.le_int (wpAny_truthy_bool ?_)
  cases hd : decide (i ≤ j) with
  | false => exact ite_ff (q _ _ (by rw [hd]; rfl) (keeps_trans k1 k2))
  | true =>
    refine ite_tt (chain_last (hc s2 _ _ (g.trans ((keeps_grow k1).trans (keeps_grow k2))) fun z s3 r3 k3 => ?_))
    obtain ⟨t3, rfl⟩ := r3
    exact P.le_int (q _ _ (by rw [hd]; rfl) (keeps_trans k1 (keeps_trans k2 k3)))
/-- a and b and .., of truth values; the later ones are asked only where the earlier are true -/
theorem ev_and {a b : Expr} {rest : List Expr} {pos : Pos} {x y : Bool} (ha : Ev prog w A env h0 a (isB x)) (hb : x = true → Ev prog w A env h0 (.BoolOp .And (b :: rest) pos) (isB y)) : Ev prog w A env h0 (.BoolOp .And (a :: b :: rest) pos) (isB (x && y)) := fun s Q E g q => by
  refine BoolOp_and (ha s _ _ g fun v s1 p k1 => ?_)
  cases p
  refine wpAny_truthy_bool ?_
  cases x with
  | false => exact q _ _ rfl k1
  | true => exact hb rfl s1 _ _ (g.trans (keeps_grow k1)) fun v s2 p2 k2 => q v s2 p2 (keeps_trans k1 k2)
theorem ev_one {a : Expr} {pos : Pos} {op : BoolOp} {P : Value → Prop} (ha : Ev prog w A env h0 a P) : Ev prog w A env h0 (.BoolOp op [a] pos) P := fun s Q E g q => BoolOp_one (ha s Q E g q)
/-- f(a, b) of a built-in -/
theorem ev_call2 {x : Str} {p pos : Pos} {a b : Expr} {id : String} {P R T : Value → Prop} (W : Wd K mg h0 env) (hx : env.kindOf x = some .globalImplicit) (hm : mg x = none) (hv : bootBuiltins x = some (.builtin id)) (ha : Ev prog w A env h0 a P) (hb : Ev prog w A env h0 b R)
    (ok : ∀ v u (s : Shared) (Q : Value → Shared → Prop) (E : Value → Shared → Prop), Grow h0 s.heap → P v → R u → (∀ z s', T z → Keeps s s' → Q z s') → wpAny (model prog w) A (call (.builtin id) [v, u]) Q E s)
    (hn : x ≠ "__name__" := by decide) (hd : (x == ("__debug__" : Str)) = false := by decide)
    (he : starEach [a, b] env = [(false, eval a env), (false, eval b env)] := by rfl) : Ev prog w A env h0 (.Call (.Name x p) [a, b] [] pos) T := fun s Q E g q => by
  refine wpAny_Call_Name_kw (ev_blt W hx hm hv hn hd s _ _ g fun v s0 pv k0 => ?_)
  subst pv
  rw [he]
  refine Calls.callWith_builtin rfl (Calls.evalArgs_plain ?_)
  refine Calls.spliced_cons (ha s0 _ _ (g.trans (keeps_grow k0)) fun v s1 p k1 => ?_)
  show wpAny _ _ (spliced [(false, _)]) _ _ _
  refine Calls.spliced_cons (hb s1 _ _ (g.trans ((keeps_grow k0).trans (keeps_grow k1))) fun u s2 r k2 => Calls.spliced_nil ?_)
  exact ok v u s2 Q E (g.trans ((keeps_grow k0).trans ((keeps_grow k1).trans (keeps_grow k2)))) p r fun z s3 t k3 => q z s3 t (keeps_trans k0 (keeps_trans k1 (keeps_trans k2 k3)))
end
end K06P

set_option maxRecDepth 100000
set_option maxHeartbeats 4000000
namespace K06P
open PySem PySem.Spec PyProof.Rows L2

/-- is_in of what stands for x -/
def inB : V → Int → Int → Bool
  | .int i, lo, hi => decide (lo ≤ i) && decide (i ≤ hi)
  | _, _, _ => false

section
variable {prog : Program} {w : World} {K : PySem.W.Frag} {mg : Str → Option Value} {A : Around} {env : Env} {h0 : Heap}
/-- a value of a plain kind: its type is told -/
inductive Plain : V → Value → Value → String → Prop
  | int (i : Int) (t : Tok) : Plain (.int i) (.int i t) (.type "int") "int"
  | non : Plain .non .none (.type "NoneType") "NoneType"
theorem isi_plain {x : V} {v ty : Value} {n c : String} {b : Bool} {s : Shared} {Q : Value → Shared → Prop} {E : Value → Shared → Prop} (p : Plain x v ty n) (k : K.In s.heap) (e : kitB n c = some b) (h : ∀ s', Keeps s s' → Q (.bool b) s') :
    wpAny (model prog w) A (call (.builtin "isinstance") [v, .type c]) Q E s := by
  cases p with
  | int i t => exact PySem.W.kia_one (PySem.W.kitx_int (K := K)) k True.intro (kit_ty e) (fun z => nomatch z) fun tk => h _ (keeps_tk s tk)
  | non => exact PySem.W.kia_one (PySem.W.kitx_none (K := K)) k True.intro (kit_ty e) (fun z => nomatch z) fun tk => h _ (keeps_tk s tk)

/-- the def is_in as it stands -/
structure IsIn (K : PySem.W.Frag) (f : Addr) : Prop where
  ex : ∃ (fd : FuncData), Fun K "is_in" "is_in" sIsIn f fd
  kp : PySem.W.keepIn K (.ref f) = true

theorem isin_body {x : V} {v ty : Value} {n : String} {lo hi : Int} {t1 t2 : Tok} {m : Str → Option Value} (p : Plain x v ty n) (W : Wd K mg h0 env) (hs : env.scope = defScope sIsIn) (mi : mg "isinstance" = none) (mint : mg "int" = none) (mb : mg "bool" = none)
    (hn : h0.Ns env.locals m) (m1 : m "value" = some v) (m2 : m "least" = some (.int lo t1)) (m3 : m "most" = some (.int hi t2)) {s : Shared} {Q : Flow → Shared → Prop} {E : Value → Shared → Prop} (g : Grow h0 s.heap)
    (h : ∀ s', Keeps s s' → Q (.ret (.bool (inB x lo hi))) s') : wpAny (model prog w) A (execs (defBody sIsIn) env) Q E s := by
  have kd : ∀ y, env.kindOf y = (defScope sIsIn).names.lookup y := fun y => by
    unfold Env.kindOf
    rw [hs]
  have nv : Ev prog w A env h0 (.Name "value" ⟨13, 22, 13, 27⟩) (fun u => u = v) := ev_loc W.kind (by rw [kd]; rfl) hn m1
  refine wpAny_execs_cons (wpAny_Return_some ?_)
  cases p with
  | int i t =>
    refine (show Ev prog w A env h0 _ (isB (inB (.int i) lo hi)) from ?_) s _ _ g fun z s' e k => by
      have e' : z = .bool (inB (.int i) lo hi) := e
      subst e'
      exact h s' k
    refine (ev_and (x := true) (y := inB (.int i) lo hi) (ev_call2 W (by rw [kd]; rfl) mi (by rfl) (ev_loc W.kind (by rw [kd]; rfl) hn m1) (ev_blt W (by rw [kd]; rfl) mint (by rfl)) fun a b s Q E g e1 e2 q => by
      subst e1 e2
      exact isi_plain (K := K) (Plain.int i t) (W.mod.kin.keeps g) (by decide +kernel) fun s' k => q _ s' rfl k) fun _ => ?_)
    refine (ev_and (x := true) (y := inB (.int i) lo hi) (ev_not (b := false) (ev_call2 W (by rw [kd]; rfl) mi (by rfl) (ev_loc W.kind (by rw [kd]; rfl) hn m1) (ev_blt W (by rw [kd]; rfl) mb (by rfl)) fun a b s Q E g e1 e2 q => by
      subst e1 e2
      exact isi_plain (K := K) (Plain.int i t) (W.mod.kin.keeps g) (by decide +kernel) fun s' k => q _ s' rfl k)) fun _ => ?_)
    refine ev_one (ev_chain ?_ ?_ ?_)
    · exact (ev_loc W.kind (by rw [kd]; rfl) hn m2).imp fun u e => ⟨t1, e⟩
    · exact (ev_loc W.kind (by rw [kd]; rfl) hn m1).imp fun u e => ⟨t, e⟩
    · exact (ev_loc W.kind (by rw [kd]; rfl) hn m3).imp fun u e => ⟨t2, e⟩
  | non =>
    refine (show Ev prog w A env h0 _ (isB false) from ?_) s _ _ g fun z s' e k => by
      have e' : z = .bool false := e
      subst e'
      exact h s' k
    refine (ev_and (x := false) (y := false) (ev_call2 W (by rw [kd]; rfl) mi (by rfl) (ev_loc W.kind (by rw [kd]; rfl) hn m1) (ev_blt W (by rw [kd]; rfl) mint (by rfl)) fun a b s Q E g e1 e2 q => by
      subst e1 e2
      exact isi_plain (K := K) Plain.non (W.mod.kin.keeps g) (by decide +kernel) fun s' k => q _ s' rfl k) fun h => by cases h)

theorem isin_raw {f : Addr} {fd : FuncData} {x : V} {v ty : Value} {n : String} {lo hi : Int} {t1 t2 : Tok} (F : Fun K "is_in" "is_in" sIsIn f fd) (mi : mg "isinstance" = none) (mint : mg "int" = none) (mb : mg "bool" = none)
    (p : Plain x v ty n) {s : Shared} {Q : Value → Shared → Prop} {E : Value → Shared → Prop} (M : L2.Mod K mg s.heap) (hd : A.depth < recursionLimit) (h : ∀ s', Keeps s s' → Q (.bool (inB x lo hi)) s') :
    wpAny (model prog w) A (call (.ref f) [v, .int lo t1, .int hi t2]) Q E s := by
  obtain ⟨oc, od, kV, doc, pm, an, cdv, ct, osl, rfl, lk, hcd⟩ := F.ex
  refine wpAny_call (codeAny_call_function hd (M.kin _ _ lk) rfl scIsIn.co scIsIn.gen rfl (PySem.W.codeRec_of M.kin hcd) ?_)
  have hb : bindArgs (PySem.W.fnOf "is_in" "is_in" (defArgs sIsIn) (defBody sIsIn) (defScope sIsIn) .none kV doc pm an cdv ct) ⟨[v, .int lo t1, .int hi t2], []⟩ = pure ((["value", "least", "most"] : List Str).zip [v, .int lo t1, .int hi t2]) := rfl
  refine wpAny_of_eq hb ?_
  refine wpAny_newFunctionEnv_cells scIsIn.kind (fun y hy => ?_) fun env he s1 xc => ?_
  · obtain ⟨y1, y2⟩ := y
    exact .inl (by
      have hm := (List.of_mem_zip hy).1
      rcases scIsIn.par y1 hm with q | q
      · exact q
      · revert q
        simp only [List.mem_cons, List.not_mem_nil, or_false] at hm
        rcases hm with rfl | rfl | rfl <;> (intro q; cases q))
  · obtain ⟨hh, tk, es, kk⟩ := xc.done
    have g1 : Grow s.heap s1.heap := xc.toInCall.keep
    have M1 := mod_grow M g1
    have hsc : env.scope = defScope sIsIn := by rw [he]; rfl
    have hL : env.kindOf = fun y => (defScope sIsIn).names.lookup y := by
      funext y
      unfold Env.kindOf
      rw [hsc]
    refine ⟨M1.nolimit, codeAny_func ?_⟩
    have W : Wd K mg s1.heap env := ⟨M1, by rw [hsc]; exact scIsIn.kind, by rw [he]; rfl, by rw [he]; rfl⟩
    refine isin_body (x := x) (lo := lo) (hi := hi) (t1 := t1) (t2 := t2) p W hsc mi mint mb xc.toInCall.ns ?_ ?_ ?_ (Grow.refl _) fun s' k => ?_
    · rw [hL]; exact bindL_get (i := 0) scIsIn.nd rfl rfl rfl
    · rw [hL]; exact bindL_get (i := 1) scIsIn.nd rfl rfl rfl
    · rw [hL]; exact bindL_get (i := 2) scIsIn.nd rfl rfl rfl
    · have e : Keeps s s1 := ⟨hh, tk, es, kk⟩
      exact h s' (keeps_trans e k)
end
end K06P

set_option maxRecDepth 100000
set_option maxHeartbeats 4000000
/-! all(.. for x in ..), all(.. for a, b in ..): over anything that is walked, the element quiet. -/
namespace K06P
open PySem PySem.Spec PyProof.Rows L2 GxR
section
variable {X : Cx} {pins : List (Addr × Obj)} {σ : L2.St} {H : Hp} {s : Shared}

/-- the element, asked at the generator's own frame: pb i -/
def ElOk (X : Cx) (scope : Scope) (elt : Expr) (x : Str) (P : Addr) (s1 : Shared) (Pf : Nat → Value → Prop) (pb : Nat → Bool) : Prop :=
  ∀ (cenv : Env) (A' : Around) (E' : Value → Shared → Prop) (i : Nat) (v : Value) (s₂ : Shared) (m₂ : Str → Option Value), cenv.scope = scope → cenv.globals = X.env.globals → cenv.builtins = builtinsNs → cenv.cells = cloFrom X.env.cells scope.names [] →
    A'.handled = none → A'.depth ≤ X.A.depth + 1 → A'.units ≤ X.A.units + 8 → Pf i v → s₂.heap.Ns cenv.locals m₂ → m₂ x = some v → (∀ b o, b ≠ P → s1.heap.get? b = some o → s₂.heap.get? b = some o) →
    wpAny (model X.prog X.w) A' (eval elt cenv) (fun y s₃ => y = .bool (pb i) ∧ Keeps s₂ s₃) E' s₂
def ElOk2 (X : Cx) (scope : Scope) (elt : Expr) (xa xb : Str) (P : Addr) (s1 : Shared) (Pf : Nat → Array Value → Prop) (pb : Nat → Bool) : Prop :=
  ∀ (cenv : Env) (A' : Around) (E' : Value → Shared → Prop) (i : Nat) (va vb : Value) (s₂ : Shared) (m₂ : Str → Option Value), cenv.scope = scope → cenv.globals = X.env.globals → cenv.builtins = builtinsNs → cenv.cells = cloFrom X.env.cells scope.names [] →
    A'.handled = none → A'.depth ≤ X.A.depth + 1 → A'.units ≤ X.A.units + 8 → Pf i #[va, vb] → s₂.heap.Ns cenv.locals m₂ → m₂ xa = some va → m₂ xb = some vb → (∀ b o, b ≠ P → s1.heap.get? b = some o → s₂.heap.get? b = some o) →
    wpAny (model X.prog X.w) A' (eval elt cenv) (fun y s₃ => y = .bool (pb i) ∧ Keeps s₂ s₃) E' s₂

/-- from the iterator to the answer of all: what the two forms share -/
theorem gen_end {P : Addr} {ps more : Array Value} {s1 s4 : Shared} {H1 : Hp} {wr : List Addr} {n : Nat} {pb : Nat → Bool} {Q : VK} {a : Addr} {h5 : Heap} {tk : Nat} {gs : GenState} {F : Nat → Value → Prop} (hF : F = fun i y => y = .bool (pb i))
    (I1 : Inv X pins σ H1 s1) (hP : H1 P = some (.tbl ps)) (k4 : ∀ b o, b ≠ P → s1.heap.get? b = some o → s4.heap.get? b = some o) (e4 : s4.gens = s1.gens ∧ s4.drawn = s1.drawn ∧ s4.os = s1.os) (sz4 : s1.heap.objs.size ≤ s4.heap.objs.size)
    (hP4 : s4.heap.get? P = some { cls := .none, data := .fields (ps ++ more) }) (ht : TriplesOk (ps ++ more).toList) (hfp : ∀ b ∈ wr, s1.heap.objs.size ≤ b)
    (hgb : gs.bare = true) (hk5 : ∀ b o, s4.heap.get? b = some o → h5.get? b = some o)
    (W5 : WalksS X.prog X.w X.A.in4 a (a :: s4.heap.objs.size :: List.range s4.heap.objs.size) (s4.heap.objs.size :: wr) (GenOnlyQ s4.gens.size) (passing (fun _ => true) n 0).length (fun j y => ∃ i, (passing (fun _ => true) n 0)[j]? = some i ∧ F i y)
      (GenAt X.prog X.w X.A.in4 a s4.gens.size s4.heap.objs.size (List.range s4.heap.objs.size) wr (fun _ => true) n F))
    (hat : GenAt X.prog X.w X.A.in4 a s4.gens.size s4.heap.objs.size (List.range s4.heap.objs.size) wr (fun _ => true) n F 0 { s4 with gens := s4.gens.push gs, toks := tk, heap := h5 })
    (hQ : ∀ H2, Tabbed P H1 H2 → Q (.bl ((List.range n).all pb)) H2) :
    wpAny (model X.prog X.w) X.A (call (.builtin "all") [.ref a]) (EP X pins σ Q) X.xe { s4 with gens := s4.gens.push gs, toks := tk, heap := h5 } := by
  subst hF
  simp only [GxR.passing_true, List.length_range] at W5
  have W := W5.in4_1
  refine call_all_walkS (W.self 0 _ _ _ hat ⟨a, _, _, _, _, _, _, pb, rfl, W, hat, ?_, fun s' hm => ?_⟩)
  · intro j y sj Qj Ej hy hQj
    obtain ⟨i, hij, rfl⟩ := hy
    obtain ⟨hj, ej⟩ := List.getElem?_eq_some_iff.mp hij
    rw [List.getElem_range] at ej
    subst ej
    exact wpAny_truthy_bool hQj
  · have nwr : ∀ b u, s1.heap.get? b = some u → b ∉ s4.heap.objs.size :: wr := fun b u e hb => by
      have hl := Heap.lt_size e
      rcases List.mem_cons.mp hb with z | z
      · rw [z] at hl
        exact absurd (Nat.lt_of_lt_of_le hl sz4) (Nat.lt_irrefl _)
      · exact absurd (Nat.lt_of_lt_of_le hl (hfp b z)) (Nat.lt_irrefl _)
    have hP1 : s1.heap.get? P = some { cls := .none, data := .fields ps } := I1.hok P _ hP
    have gb : AllBare (s4.gens.push gs) := by
      rw [e4.1]
      exact I1.bare.push hgb
    have J := inv_tab (more := more) (h' := s'.heap) (g' := s'.gens) (d' := s'.drawn) (t' := s'.toks) I1 hP (fun b u hb e => hm.heap b u (nwr b u e) (hk5 b u (k4 b u hb e)))
      (hm.heap P _ (nwr P _ hP1) (hk5 P _ hP4)) (AllBare.movedS gb hm)
    have eos : s'.os = s1.os := hm.os.trans e4.2.2
    rw [sh_eta s1 s' eos] at J
    exact ⟨.bl _, upd H1 P (.tbl (ps ++ more)), J, rfl, hQ _ ⟨⟨ps ++ more, upd_same, ht⟩, fun b hb => upd_ne hb⟩⟩

/-- the table, the code object, the built-ins: from behind iter(..) to where the generator is made -/
theorem gen_mid {c P : Addr} {scope : Scope} {gpos : Pos} {qn : Str} {s1 s2 : Shared} {H1 : Hp} {ps : Array Value} {E : Value → Shared → Prop} {R : Value → Addr → Shared → Prop} (TB : TabB X.base X.mg c P) (hcode : X.env.code = .ref c)
    (I1 : Inv X pins σ H1 s1) (hP : H1 P = some (.tbl ps)) (ht : TriplesOk ps.toList) (k2 : Keeps s1 s2)
    (h : ∀ code s4 more, (∀ b o, b ≠ P → s2.heap.get? b = some o → s4.heap.get? b = some o) → s4.gens = s2.gens → s4.drawn = s2.drawn → s4.os = s2.os → s2.heap.objs.size ≤ s4.heap.objs.size →
      s4.heap.get? P = some { cls := .none, data := .fields (ps ++ more) } → TriplesOk (ps ++ more).toList → s4.heap.NoLimit → R code builtinsNs s4) :
    s2.heap.NoLimit ∧ wpAny (model X.prog X.w) X.A (genexprCode X.env gpos qn scope) (fun code s3 => wpAny (model X.prog X.w) X.A (builtinsFor X.env.globals X.env.builtins) (fun bi s4 => R code bi s4) E s3) E s2 := by
  obtain ⟨h2, tk2, rfl, g2⟩ := k2
  have hPs : s1.heap.get? P = some { cls := .none, data := .fields ps } := I1.hok P _ hP
  have hP2 := g2 _ _ hPs
  have cd : PySem.W.CodeHd h2 c P := TB.code.keeps fun b u e => g2 _ _ (I1.bk b u e)
  have lim2 : h2.NoLimit := I1.nolimit.keeps g2
  have hcP : cStatics ≠ P := fun e => by
    obtain ⟨_, hns, _⟩ := I1.nolimit
    obtain ⟨o', es, ep, ho, hd, _⟩ := hns
    rw [e, hPs] at ho
    cases ho
    cases hd
  have cont : ∀ (code : Value) (h3 : Heap) (tk : Nat) (more : Array Value), Heap.ExtBut P h2 h3 → h2.objs.size ≤ h3.objs.size → h3.get? P = some { cls := .none, data := .fields (ps ++ more) } → TriplesOk (ps ++ more).toList →
      wpAny (model X.prog X.w) X.A (builtinsFor X.env.globals X.env.builtins) (fun bi s4 => R code bi s4) E { s1 with heap := h3, toks := tk } := by
    intro code h3 tk more hx hsz hP3 ht3
    obtain ⟨bm, ob, e1, e2, e3, e4, e5, e6, e7, e8⟩ := TB.bm
    refine wpAny_builtinsFor (m := X.mg) (by rw [I1.ok.glob]; exact ((I1.mod.glob.keeps I1.bk).keeps g2).extBut hx TB.gP) e1 e2 (hx _ _ e4 (g2 _ _ (I1.bk _ _ e5))) e6 e7 e8 ?_
    exact h code _ more (fun b o hb e => hx b o hb e) rfl rfl rfl hsz hP3 ht3 (lim2.extBut hx hcP)
  refine ⟨lim2, ?_⟩
  cases hf : codeAmong gpos ps.toList with
  | none =>
    refine wpAny_genexprCodeX hcode (cd.code hP2 ht) (cd.tab hP2) hf fun c' h' tk hx hge hlt hco' _ htab' _ => ?_
    obtain ⟨o1, vs, f1, tf, fl, tg, inF, tx, tt, op, _, _, _, _, _, _, _, _, _, htr, _⟩ := hco'
    exact cont _ h' tk _ hx (Nat.le_trans hge (Nat.le_of_lt hlt)) htab'.2 htr
  | some cv =>
    refine wpAny_genexprCode_hit hcode (cd.code hP2 ht) hf ?_
    exact cont cv h2 tk2 #[] (Heap.ExtBut.refl _ _) (Nat.le_refl _) (by simpa using hP2) (by simpa using ht)

/-- what is walked, begun: a walk of n turns; its cells are young; the element -/
structure PW1 (X : Cx) (iter elt : Expr) (scope : Scope) (x : Str) (P : Addr) (t : L2.St → Hp → (Nat → (Nat → Bool) → Hp → Prop) → Prop) : Prop where
  run : ∀ (pins : List (Addr × Obj)) (s : Shared) (σ : L2.St) (H : Hp) (R : Nat → (Nat → Bool) → Hp → Prop), Inv X pins σ H s → t σ H R →
    wpAny (model X.prog X.w) X.A (eval iter X.env) (fun xv s1 => wpAny (model X.prog X.w) X.A (pyIter xv) (fun it s2 => ∃ (s1' : Shared) (H1 : Hp) (I : Addr) (fp wr : List Addr) (n : Nat) (Pf : Nat → Value → Prop) (St₀ : Nat → Heap → Prop) (pb : Nat → Bool),
      it = .ref I ∧ Inv X pins σ H1 s1' ∧ Keeps s1' s2 ∧ s1'.heap.objs.size ≤ s2.heap.objs.size ∧ (∀ A' : Around, A'.handled = none → Walks X.prog X.w A' I fp wr n Pf St₀) ∧ St₀ 0 s2.heap ∧ (∀ b ∈ fp, b < s2.heap.objs.size ∧ b ≠ P) ∧ (∀ b ∈ wr, s1'.heap.objs.size ≤ b) ∧ ElOk X scope elt x P s1' Pf pb ∧ R n pb H1) X.xe s1) X.xe s
def tAllW (P : Addr) (t : L2.St → Hp → (Nat → (Nat → Bool) → Hp → Prop) → Prop) : TE := fun σ H Q => t σ H fun n pb H1 => TabG H1 P ∧ ∀ H2, Tabbed P H1 H2 → Q (.bl ((List.range n).all pb)) H2
theorem pe_allW {c P : Addr} {elt iter : Expr} {x : Str} {px p pos gpos : Pos} {scope : Scope} {t : L2.St → Hp → (Nat → (Nat → Bool) → Hp → Prop) → Prop} {k : Nat}
    (hr : Room k X.A) (hg : Gl X "all") (hm : X.mg "all" = none) (TB : TabB X.base X.mg c P) (hcode : X.env.code = .ref c) (S : GenS X.env scope x) (hi : PW1 X iter elt scope x P t)
    (hs : ∀ v, genFold iter X.env v = pure v)
    (he : starEach [.GeneratorExp elt [⟨.Name x px, iter, [], 0⟩] scope gpos] X.env = (false, eval (.GeneratorExp elt [⟨.Name x px, iter, [], 0⟩] scope gpos) X.env) :: starEach [] X.env := by rfl) :
    PE X (.Call (.Name "all" p) [.GeneratorExp elt [⟨.Name x px, iter, [], 0⟩] scope gpos] [] pos) (tAllW P t) := by
  refine ⟨fun pins s σ H Q I h => ?_⟩
  refine wpAny_Call_Name_kw (ld_blt I hg hm (by rfl) ?_)
  refine PyProof.Rows.callWith_builtin1 ?_ he (by rfl)
  rw [he]
  show wpAny _ _ (spliced ((false, eval (.GeneratorExp elt [⟨.Name x px, iter, [], 0⟩] scope gpos) X.env) :: backTo pos (starEach [] X.env))) _ _ s
  refine Calls.spliced_cons (wpAny_GeneratorExp_walksQD hr.hd S.co (closure_ok S.free) S.cell S.dot S.loc S.kind (by have := hr.dp; omega) ?_ hs)
  refine thn (hi.run pins s σ H _ I h) fun xv s1 h1 => thn h1 fun it s2 h2 => ?_
  obtain ⟨s1', H1, It, fp, wr, n, Pf, St₀, pb, rfl, I1, k2, sz2, W, hst, hfp, hwr, hel, ⟨⟨ps, hP, ht⟩, q⟩⟩ := h2
  refine gen_mid TB hcode I1 hP ht k2 fun code s4 more k4 e1 e2 e3 sz4 hP4 ht4 lim4 => ?_
  have g2 := keeps_grow k2
  obtain ⟨hh2, tt2, ee2, _⟩ := id k2
  have k14 : ∀ b o, b ≠ P → s1'.heap.get? b = some o → s4.heap.get? b = some o := fun b o hb e => k4 b o hb (g2 b o e)
  have hcl : cStatics < s1'.heap.objs.size := let ⟨_, hns, _⟩ := I1.nolimit; hns.lt
  refine ⟨It, fp, wr, n, Pf, St₀, (fun _ => true), (fun i y => y = .bool (pb i)), rfl, W, ?_, fun b hb => Nat.lt_of_lt_of_le (hfp b hb).1 sz4, lim4, fun z => absurd (Nat.lt_of_lt_of_le hcl (hwr _ z)) (Nat.lt_irrefl _), ?_, ?_⟩
  · exact (W X.A hr.hd).frame _ _ _ hst fun b hb u e => k4 b u (hfp b hb).2 e
  · intro href hhref
    refine ⟨fun A' E' i v s₂ m₂ hA _ _ hPv hn hm hk => ?_, fun A' E' i v s₂ m₂ hA hD hU hPv _ hn hm hk => ?_⟩
    · simp only [List.forIn_nil]
      exact wpAny_pure ⟨rfl, keeps_rfl _⟩
    · refine hel (genEnv scope (cloFrom X.env.cells scope.names []) s4.heap.objs.size code builtinsNs X.env) A' E' i v s₂ m₂ rfl rfl rfl rfl hA hD hU hPv hn hm fun b o hb e => ?_
      have hl := Heap.lt_size e
      refine hk b (List.mem_range.mpr (Nat.lt_of_lt_of_le hl (Nat.le_trans sz2 sz4))) (fun z => absurd (Nat.lt_of_lt_of_le hl (hwr b z)) (Nat.lt_irrefl _)) o (hhref b o (k14 b o hb e))
  · intro g h5 tk5 gs hgb hag hsz5 hk5 W5 hat
    refine Calls.spliced_nil ?_
    exact gen_end (s1 := s1') (H1 := H1) rfl I1 hP k14 ⟨e1.trans (by rw [ee2]), e2.trans (by rw [ee2]), e3.trans (by rw [ee2])⟩ (Nat.le_trans sz2 sz4) hP4 ht4 hwr hgb hk5 W5 hat q

/-! the same with a pair for its target -/
structure PW2 (X : Cx) (iter elt : Expr) (scope : Scope) (xa xb : Str) (P : Addr) (t : L2.St → Hp → (Nat → (Nat → Bool) → Hp → Prop) → Prop) : Prop where
  run : ∀ (pins : List (Addr × Obj)) (s : Shared) (σ : L2.St) (H : Hp) (R : Nat → (Nat → Bool) → Hp → Prop), Inv X pins σ H s → t σ H R →
    wpAny (model X.prog X.w) X.A (eval iter X.env) (fun xv s1 => wpAny (model X.prog X.w) X.A (pyIter xv) (fun it s2 => ∃ (s1' : Shared) (H1 : Hp) (I : Addr) (fp wr : List Addr) (n : Nat) (Pf : Nat → Array Value → Prop) (St₀ : Nat → Heap → Prop) (Mid : Nat → Addr → Heap → Prop) (pb : Nat → Bool),
      it = .ref I ∧ Inv X pins σ H1 s1' ∧ Keeps s1' s2 ∧ s1'.heap.objs.size ≤ s2.heap.objs.size ∧ (∀ A' : Around, A'.handled = none → WalksU X.prog X.w A' I fp wr n Pf St₀ Mid) ∧ (∀ i vals, Pf i vals → ∃ va vb, vals = #[va, vb]) ∧ St₀ 0 s2.heap ∧ (∀ b ∈ fp, b < s2.heap.objs.size ∧ b ≠ P) ∧ (∀ b ∈ wr, s1'.heap.objs.size ≤ b) ∧ ElOk2 X scope elt xa xb P s1' Pf pb ∧ R n pb H1) X.xe s1) X.xe s
theorem pe_allW2 {c P : Addr} {elt iter : Expr} {xa xb : Str} {pa pb' pt p pos gpos : Pos} {kt : Nat} {scope : Scope} {t : L2.St → Hp → (Nat → (Nat → Bool) → Hp → Prop) → Prop} {k : Nat}
    (hr : Room k X.A) (hg : Gl X "all") (hm : X.mg "all" = none) (TB : TabB X.base X.mg c P) (hcode : X.env.code = .ref c) (S : GenS X.env scope xa) (hxb : scope.names.lookup xb = some .local) (hab : xa ≠ xb) (hi : PW2 X iter elt scope xa xb P t)
    (hs : ∀ v, genFold iter X.env v = pure v)
    (he : starEach [.GeneratorExp elt [⟨.Tuple [.Name xa pa, .Name xb pb'] kt pt, iter, [], 0⟩] scope gpos] X.env = (false, eval (.GeneratorExp elt [⟨.Tuple [.Name xa pa, .Name xb pb'] kt pt, iter, [], 0⟩] scope gpos) X.env) :: starEach [] X.env := by rfl) :
    PE X (.Call (.Name "all" p) [.GeneratorExp elt [⟨.Tuple [.Name xa pa, .Name xb pb'] kt pt, iter, [], 0⟩] scope gpos] [] pos) (tAllW P t) := by
  refine ⟨fun pins s σ H Q I h => ?_⟩
  refine wpAny_Call_Name_kw (ld_blt I hg hm (by rfl) ?_)
  refine PyProof.Rows.callWith_builtin1 ?_ he (by rfl)
  rw [he]
  show wpAny _ _ (spliced ((false, eval (.GeneratorExp elt [⟨.Tuple [.Name xa pa, .Name xb pb'] kt pt, iter, [], 0⟩] scope gpos) X.env) :: backTo pos (starEach [] X.env))) _ _ s
  refine Calls.spliced_cons (wpAny_GeneratorExp_walksQTD hr.hd S.co (closure_ok S.free) S.cell S.dot S.loc hxb hab S.kind (by have := hr.dp; omega) ?_ hs)
  refine thn (hi.run pins s σ H _ I h) fun xv s1 h1 => thn h1 fun it s2 h2 => ?_
  obtain ⟨s1', H1, It, fp, wr, n, Pf, St₀, Mid, pb, rfl, I1, k2, sz2, W, hvals, hst, hfp, hwr, hel, ⟨⟨ps, hP, ht⟩, q⟩⟩ := h2
  refine gen_mid TB hcode I1 hP ht k2 fun code s4 more k4 e1 e2 e3 sz4 hP4 ht4 lim4 => ?_
  have g2 := keeps_grow k2
  obtain ⟨hh2, tt2, ee2, _⟩ := id k2
  have k14 : ∀ b o, b ≠ P → s1'.heap.get? b = some o → s4.heap.get? b = some o := fun b o hb e => k4 b o hb (g2 b o e)
  have hcl : cStatics < s1'.heap.objs.size := let ⟨_, hns, _⟩ := I1.nolimit; hns.lt
  refine ⟨It, fp, wr, n, Pf, St₀, Mid, (fun _ => true), (fun i y => y = .bool (pb i)), rfl, W, hvals, ?_, fun b hb => Nat.lt_of_lt_of_le (hfp b hb).1 sz4, lim4, fun z => absurd (Nat.lt_of_lt_of_le hcl (hwr _ z)) (Nat.lt_irrefl _), ?_, ?_⟩
  · exact (W X.A hr.hd).frame _ _ _ hst fun b hb u e => k4 b u (hfp b hb).2 e
  · intro href hhref
    refine ⟨fun A' E' i va vb s₂ m₂ hA _ _ hPv hn hm hm2 hk => ?_, fun A' E' i va vb s₂ m₂ hA hD hU hPv _ hn hm hm2 hk => ?_⟩
    · simp only [List.forIn_nil]
      exact wpAny_pure ⟨rfl, keeps_rfl _⟩
    · refine hel (genEnv scope (cloFrom X.env.cells scope.names []) s4.heap.objs.size code builtinsNs X.env) A' E' i va vb s₂ m₂ rfl rfl rfl rfl hA hD hU hPv hn hm hm2 fun b o hb e => ?_
      have hl := Heap.lt_size e
      refine hk b (List.mem_range.mpr (Nat.lt_of_lt_of_le hl (Nat.le_trans sz2 sz4))) (fun z => absurd (Nat.lt_of_lt_of_le hl (hwr b z)) (Nat.lt_irrefl _)) o (hhref b o (k14 b o hb e))
  · intro g h5 tk5 gs hgb hag hsz5 hk5 W5 hat
    refine Calls.spliced_nil ?_
    exact gen_end (s1 := s1') (H1 := H1) rfl I1 hP k14 ⟨e1.trans (by rw [ee2]), e2.trans (by rw [ee2]), e3.trans (by rw [ee2])⟩ (Nat.le_trans sz2 sz4) hP4 ht4 hwr hgb hk5 W5 hat q
end
end K06P

set_option maxRecDepth 100000
set_option maxHeartbeats 4000000
/-! The three generator expressions of are_deputies and is_lot. -/
namespace K06P
open PySem PySem.Spec PyProof.Rows L2 GxR

section
variable {prog : Program} {w : World} {K : PySem.W.Frag} {mg : Str → Option Value} {A : Around} {env : Env} {h0 : Heap}
theorem ev_isin {f : Addr} {fd : FuncData} {p pos : Pos} {a b c : Expr} {x : V} {v ty : Value} {n : String} {lo hi : Int} (W : Wd K mg h0 env) (F : Fun K "is_in" "is_in" sIsIn f fd) (mf : mg "is_in" = some (.ref f)) (hx : env.kindOf "is_in" = some .globalImplicit)
    (mi : mg "isinstance" = none) (mint : mg "int" = none) (mb : mg "bool" = none) (pl : Plain x v ty n) (hdep : A.depth < recursionLimit) (ha : Ev prog w A env h0 a (fun u => u = v)) (hb : Ev prog w A env h0 b (isI lo)) (hc : Ev prog w A env h0 c (isI hi))
    (he : starEach [a, b, c] env = (false, eval a env) :: starEach [b, c] env := by rfl) (he2 : starEach [b, c] env = [(false, eval b env), (false, eval c env)] := by rfl) :
    Ev prog w A env h0 (.Call (.Name "is_in" p) [a, b, c] [] pos) (isB (inB x lo hi)) := fun s Q E g q => by
  refine wpAny_Call_Name_kw (ev_glob W hx mf (by decide) s _ _ g fun v0 s0 pv k0 => ?_)
  subst pv
  refine PySem.W.callWith_K (h₀ := h0) W.mod.kin F.kp ?_ he (by rw [he2]; rfl)
  rw [he, he2]
  show wpAny _ _ (spliced ((false, eval a env) :: [(false, _), (false, _)])) _ _ _
  refine Calls.spliced_cons (ha s0 _ _ (g.trans (keeps_grow k0)) fun v1 s1 p1 k1 => ?_)
  refine Calls.spliced_cons (hb s1 _ _ (g.trans ((keeps_grow k0).trans (keeps_grow k1))) fun v2 s2 p2 k2 => ?_)
  refine Calls.spliced_cons (hc s2 _ _ (g.trans ((keeps_grow k0).trans ((keeps_grow k1).trans (keeps_grow k2)))) fun v3 s3 p3 k3 => Calls.spliced_nil ?_)
  subst p1
  obtain ⟨t2, rfl⟩ := p2
  obtain ⟨t3, rfl⟩ := p3
  have g3 : Grow h0 s3.heap := g.trans ((keeps_grow k0).trans ((keeps_grow k1).trans ((keeps_grow k2).trans (keeps_grow k3))))
  have M3 := mod_grow W.mod g3
  exact ⟨M3.kin, isin_raw (x := x) F mi mint mb pl M3 hdep fun s' k => q _ s' rfl (keeps_trans k0 (keeps_trans k1 (keeps_trans k2 (keeps_trans k3 k))))⟩
theorem ev_len {p pos : Pos} {a : Expr} {l : Addr} {its : Array Value} (W : Wd K mg h0 env) (hx : env.kindOf "len" = some .globalImplicit) (hm : mg "len" = none) (ha : Ev prog w A env h0 a (fun u => u = .ref l)) (ht : IsTup h0 l its) (hfit : (its.size : Int) < 2 ^ 63)
    (he : starEach [a] env = [(false, eval a env)] := by rfl) : Ev prog w A env h0 (.Call (.Name "len" p) [a] [] pos) (isI its.size) := fun s Q E g q => by
  refine wpAny_Call_Name_kw (ev_blt W hx hm PySem.boot_len (by decide) (by decide) s _ _ g fun v0 s0 pv k0 => ?_)
  subst pv
  rw [he]
  refine Calls.callWith_builtin rfl (Calls.evalArgs_plain (Calls.spliced_cons (ha s0 _ _ (g.trans (keeps_grow k0)) fun v1 s1 p1 k1 => Calls.spliced_nil ?_)))
  subst p1
  have g1 := g.trans ((keeps_grow k0).trans (keeps_grow k1))
  have ht1 : IsTup s1.heap l its := let ⟨o, h1, h2⟩ := ht; ⟨o, g1 _ _ h1, h2⟩
  exact len_tuple ht1 hfit (q _ _ ⟨_, rfl⟩ (keeps_trans k0 (keeps_trans k1 ⟨_, _, rfl, fun _ _ e => e⟩)))
theorem ev_item {pos : Pos} {a b : Expr} {l : Addr} {its : Array Value} {i : Int} {j : Nat} {v : Value} (ha : Ev prog w A env h0 a (fun u => u = .ref l)) (hb : Ev prog w A env h0 b (isI i)) (ht : IsTup h0 l its) (hlo : -(2 ^ 63) ≤ i) (hhi : i < 2 ^ 63)
    (hj : seqIndex? i its.size = some j) (hv : its[j]? = some v) (hs : ∀ o k, subscripted b false o k = operate [o, k] (getItem o k)) : Ev prog w A env h0 (.Subscript a b pos) (fun u => u = v) := fun s Q E g q => by
  refine Subscript_ (ha s _ _ g fun v1 s1 p1 k1 => hb s1 _ _ (g.trans (keeps_grow k1)) fun v2 s2 p2 k2 => ?_)
  subst p1
  obtain ⟨t, rfl⟩ := p2
  have g2 := g.trans ((keeps_grow k1).trans (keeps_grow k2))
  have ht2 : IsTup s2.heap l its := let ⟨o, h1, h2⟩ := ht; ⟨o, g2 _ _ h1, h2⟩
  exact subscriptTail_builtinR (x := v) ht2.typeIs slot_tuple_getitem.lookup (getItem_tuple (j := j) (Q := fun r s' => r = v ∧ Q r s') ht2 hlo hhi hj hv ⟨rfl, q v s2 rfl (keeps_trans k1 k2)⟩) (hs _ _)
end

section
variable {X : Cx} {pins : List (Addr × Obj)} {σ : L2.St} {H : Hp} {s : Shared}
theorem cell_of (I : Inv X pins σ H s) {i : Nat} {x : Str} {v : V} (hN : X.N[i]? = some x) (hσ : σ[i]? = some (some v)) (hk : X.env.kindOf x = some .cell) : ∃ u c, RelV v u ∧ X.env.cells.lookup x = some c ∧ s.heap.IsCell c (some u) := by
  obtain ⟨m, hn, hl⟩ := I.loc
  obtain ⟨u, r, l⟩ := hl i x v hN hσ (.inr (.inl hk))
  rcases l with ⟨k, _⟩ | ⟨_, c, e, z⟩
  · rw [hk] at k
    cases k
  · exact ⟨u, c, r, e, z⟩
theorem sqT_ne (I : Inv X pins σ H s) {a P : Addr} {xs : List V} {ps : Array Value} (h : SqT X.K H a xs) (hP : H P = some (.tbl ps)) : a ≠ P := fun z => by
  subst z
  rcases h with (h | ⟨o, h⟩) | ⟨o, its, n, hk, _⟩
  · rw [hP] at h; cases h
  · rw [hP] at h; cases h
  · have := (I.bs a o (I.ok.mod.kin a o hk)).2
    rw [hP] at this
    cases this
/-- the world in the element's frame -/
theorem wd_of {P : Addr} {ps : Array Value} {s2 : Shared} {cenv : Env} {scope : Scope} (I : Inv X pins σ H s) (hP : H P = some (.tbl ps)) (k : ∀ b o, b ≠ P → s.heap.get? b = some o → s2.heap.get? b = some o) (hs : cenv.scope = scope) (hk : scope.kind = .function) (hg : cenv.globals = X.env.globals) (hb : cenv.builtins = builtinsNs) :
    Wd X.K X.mg s2.heap cenv :=
  ⟨mod_grow I.ok.mod fun b o e => k b o (fun z => by
    have := (I.bs b o e).2
    rw [z, hP] at this
    cases this) (I.bk b o e), by rw [hs]; exact hk, by rw [hg]; exact I.ok.glob, hb⟩
theorem cell_ne (I : Inv X pins σ H s) {P c : Addr} {x : Str} {ps : Array Value} (hP : H P = some (.tbl ps)) (hc : X.env.cells.lookup x = some c) : c ≠ P := fun z => by
  have := I.freeC x c hc
  rw [z, hP] at this
  cases this

/-! ### for one in value: is_in(one, 0, size - 1) -/
def tW1 (K : PySem.W.Frag) (P : Addr) (isz : Nat) (te : TE) : L2.St → Hp → (Nat → (Nat → Bool) → Hp → Prop) → Prop := fun σ H R => te σ H fun v H1 => ∃ (a : Addr) (xs : List V) (n : Int), v = .ref a ∧ SqT K H1 a xs ∧ TabG H1 P ∧ (∀ x ∈ xs, (∃ i, x = .int i) ∨ x = .non) ∧
  σ[isz]? = some (some (.int n)) ∧ R xs.length (fun i => inB (xs.getD i .non) 0 (n - 1)) H1
theorem rel_plain {x : V} {u : Value} (r : RelV x u) (h : (∃ i, x = .int i) ∨ x = .non) : ∃ ty n, Plain x u ty n := by
  rcases h with ⟨i, rfl⟩ | rfl
  · obtain ⟨t, rfl⟩ := r
    exact ⟨_, _, .int i t⟩
  · cases (show u = Value.none from r)
    exact ⟨_, _, .non⟩
theorem getD_of {xs : List V} {i : Nat} {x : V} (h : xs[i]? = some x) : xs.getD i .non = x := by
  rw [List.getD_eq_getElem?_getD, h]
  rfl
theorem pw_lot1 {P f : Addr} {fd : FuncData} {iter : Expr} {scope : Scope} {te : TE} {isz : Nat} {p1 p2 p3 p4 p5 p6 p7 : Pos} {j1 j2 : Nat} (hr : X.A.depth + 5 < recursionLimit) (hh : X.A.handled = none) (F : Fun X.K "is_in" "is_in" sIsIn f fd) (mf : X.mg "is_in" = some (.ref f))
    (mi : X.mg "isinstance" = none) (mint : X.mg "int" = none) (mb : X.mg "bool" = none) (hsc : scope.kind = .function) (k1 : scope.names.lookup ("one" : Str) = some .local) (k2 : scope.names.lookup ("size" : Str) = some .free) (k3 : scope.names.lookup ("is_in" : Str) = some .globalImplicit)
    (kc : (cloFrom X.env.cells scope.names []).lookup ("size" : Str) = some ((X.env.cells.lookup ("size" : Str)).getD 0)) (hN : X.N[isz]? = some ("size" : Str)) (kX : X.env.kindOf "size" = some .cell) (hi : PE X iter te) :
    PW1 X iter (.Call (.Name "is_in" p1) [.Name "one" p2, .Constant (.int 0) j1 p3, .BinOp (.Name "size" p4)   .Sub (.Constant (.int 1) j2 p5) p6] [] p7) scope "one" P (tW1 X.K P isz te) := by
  refine ⟨fun pins s σ H R I h => ?_⟩
  refine thn (hi.run pins s σ H _ I h) fun v s1 ⟨x, H1, I1, r1, q1⟩ => ?_
  obtain ⟨a, xs, n, rfl, hq, ⟨ps, hP, ht⟩, hpl, hn, hR⟩ := q1
  cases r1
  obtain ⟨its, rv, htup, hz⟩ := I1.tuple hq
  have haP := sqT_ne I1 hq hP
  refine wpAny_pyIter_tuple (show s1.heap.IsTuple a its.toArray from htup) ?_
  have hlt : a < s1.heap.objs.size := htup.lt
  have hPlt : P < s1.heap.objs.size := Heap.lt_size (I1.hok P _ hP)
  refine ⟨s1, H1, s1.heap.objs.size, [s1.heap.objs.size, a], [s1.heap.objs.size], its.toArray.size, (fun i v => its.toArray[i]? = some v), _, (fun i => inB (xs.getD i .non) 0 (n - 1)), rfl, I1, ⟨_, _, rfl, fun b o e => Heap.get?_push_of_some _ e⟩, ?_,
    fun A' hA => Walks.tuple hA s1.heap.objs.size a (Nat.ne_of_lt hlt) its.toArray, ⟨⟨_, Heap.get?_push_size _ rfl, rfl, rfl⟩, htup.push _⟩, ?_, ?_, ?_, ?_⟩
  · show s1.heap.objs.size ≤ (s1.heap.push _).objs.size
    rw [Heap.size_push]
    exact Nat.le_succ _
  · intro b hb
    have hsz : (s1.heap.push { cls := .type "tuple_iterator", data := .fields #[.ref a, .int 0 0] }).objs.size = s1.heap.objs.size + 1 := Heap.size_push ..
    show b < (s1.heap.push _).objs.size ∧ _
    rw [Heap.size_push]
    rcases List.mem_cons.mp hb with rfl | hb
    · exact ⟨Nat.lt_succ_self _, fun z => absurd (z ▸ hPlt) (Nat.lt_irrefl _)⟩
    · rcases List.mem_cons.mp hb with rfl | hb
      · exact ⟨Nat.lt_succ_of_lt hlt, haP⟩
      · cases hb
  · intro b hb
    rw [List.mem_singleton.mp hb]
    exact Nat.le_refl _
  · intro cenv A' E' i u s2 m2 e1 e2 e3 e4 hA hD hU hu hns hm kk
    have hu' : its[i]? = some u := by simpa using hu
    obtain ⟨y, hy, ry⟩ := K06R.vals_at rv hu'
    obtain ⟨ty, nn, pl⟩ := rel_plain ry (hpl y (List.mem_of_getElem? hy))
    obtain ⟨usz, c, rsz, hc, hcell⟩ := cell_of I1 hN hn kX
    obtain ⟨tsz, rfl⟩ := rsz
    have W := wd_of I1 hP kk e1 hsc e2 e3
    have kd : ∀ z, cenv.kindOf z = scope.names.lookup z := fun z => by
      unfold Env.kindOf
      rw [e1]
    have hcl : cenv.cells.lookup ("size" : Str) = some c := by
      rw [e4, kc, hc]
      rfl
    have hcell2 : s2.heap.IsCell c (some (.int n tsz)) := let ⟨o, ho, hd⟩ := hcell; ⟨o, kk c o (cell_ne I1 hP hc) ho, hd⟩
    show wpAny _ _ _ (fun z s3 => z = Value.bool (inB (xs.getD i .non) 0 (n - 1)) ∧ Keeps s2 s3) _ _
    rw [getD_of hy]
    refine ev_isin (x := y) (lo := 0) (hi := n - 1) W F mf (by rw [kd]; exact k3) mi mint mb pl (by omega) (ev_loc W.kind (by rw [kd]; exact k1) hns hm) ev_int (ev_sub ((ev_free W.kind (by rw [kd]; exact k2) hcl hcell2).imp fun u e => ⟨tsz, e⟩) ev_int) rfl rfl s2 _ _ (Grow.refl _) fun z s' e k => ⟨e, k⟩
  · have e : its.toArray.size = xs.length := by
      rw [List.size_toArray]
      exact rv.length.symm
    rw [e]
    exact hR

theorem walks_bound {prog : Program} {w : World} {A : Around} {I : Addr} {fp wr : List Addr} {n : Nat} {P : Nat → Value → Prop} {St : Nat → Heap → Prop} (W : Walks prog w A I fp wr n P St) : Walks prog w A I fp wr n (fun i v => i < n ∧ P i v) St where
  sub := W.sub
  frame := W.frame
  item := fun i s Q E hi st hQ => W.item i s Q E hi st fun v h' tk hP hs hk => hQ v h' tk ⟨hi, hP⟩ hs hk
  done := W.done
  self := W.self

/-! ### for k in range(len(value) - 1): value[k] < value[k + 1] -/
def tW2 (K : PySem.W.Frag) (P : Addr) (iv : Nat) (te : TE) : L2.St → Hp → (Nat → (Nat → Bool) → Hp → Prop) → Prop := fun σ H R => tCons te tNil σ H fun vs H1 => ∃ (j : Int) (a : Addr) (ns : List Int), vs = [.int j] ∧ j = (ns.length : Int) - 1 ∧ ns.length ≤ 1000 ∧ SqT K H1 a (ns.map V.int) ∧ TabG H1 P ∧
  σ[iv]? = some (some (.ref a)) ∧ R j.toNat (fun i => decide (ns.getD i 0 < ns.getD (i + 1) 0)) H1
theorem pw_lot2 {P : Addr} {ie : Expr} {scope : Scope} {te : TE} {iv : Nat} {p0 p1 p2 p3 p4 p5 p6 p7 p8 p9 p10 : Pos} {j1 : Nat} (hr : X.A.depth + 5 < recursionLimit) (hh : X.A.handled = none) (hgr : Gl X "range") (hmr : X.mg "range" = none)
    (hsc : scope.kind = .function) (k1 : scope.names.lookup ("k" : Str) = some .local) (k2 : scope.names.lookup ("value" : Str) = some .free)
    (kc : (cloFrom X.env.cells scope.names []).lookup ("value" : Str) = some ((X.env.cells.lookup ("value" : Str)).getD 0)) (hN : X.N[iv]? = some ("value" : Str)) (kX : X.env.kindOf "value" = some .cell) (hi : PE X ie te)
    (he : starEach [ie] X.env = (false, eval ie X.env) :: starEach [] X.env := by rfl) :
    PW1 X (.Call (.Name "range" p0) [ie] [] p1) (.Compare (.Subscript (.Name "value" p2) (.Name "k" p3) p4) [.Lt] [.Subscript (.Name "value" p5) (.BinOp (.Name "k" p6) .Add (.Constant (.int 1) j1 p7) p8) p9] p10) scope "k" P (tW2 X.K P iv te) := by
  refine ⟨fun pins s σ H R I h => ?_⟩
  have ha : PA X [ie] (tCons te tNil) := pa_cons hi pa_nil he
  refine Call_ (ld_blt I hgr hmr boot_range (PyProof.Rows.callWith_type1 (thn (ha.run p1 pins s σ H _ I h) fun us s1 ⟨vs, H1, I1, r1, q1⟩ => ?_) he rfl))
  obtain ⟨j, a, ns, e1, hj, hlen, hq, ⟨ps, hP, ht⟩, hn, hR⟩ := q1
  subst e1
  obtain ⟨uj, rfl, ⟨tj, rfl⟩⟩ : ∃ u, us = [u] ∧ RelV (.int j) u := by
    cases r1 with
    | cons r rr =>
      cases rr
      exact ⟨_, rfl, r⟩
  obtain ⟨its, rv, htup, hz⟩ := I1.tuple hq
  have haP := sqT_ne I1 hq hP
  refine call_range_1 ?_
  refine wpAny_pyIter_range (IsRange.new ..) (small_one (by omega) (by omega) (by omega) (by omega)) ?_
  have hPlt : P < s1.heap.objs.size := Heap.lt_size (I1.hok P _ hP)
  generalize hr1 : s1.heap.push { cls := .type "range", data := .fields #[.int 0 s1.toks, .int j tj, .int 1 (s1.toks + 1)] } = h1
  have sz1 : h1.objs.size = s1.heap.objs.size + 1 := by rw [← hr1]; exact Heap.size_push ..
  have kp1 : Grow s1.heap h1 := fun b o e => by rw [← hr1]; exact Heap.get?_push_of_some _ e
  have hlen2 : its.length = ns.length := by rw [← rv.length, List.length_map]
  show ∃ (s1' : Shared) (H1 : Hp) (It : Addr) (fp wr : List Addr) (n : Nat) (Pf : Nat → Value → Prop) (St₀ : Nat → Heap → Prop) (pb : Nat → Bool), (Value.ref h1.objs.size) = .ref It ∧ _
  refine ⟨s1, H1, h1.objs.size, [h1.objs.size], [h1.objs.size], j.toNat, (fun i v => i < j.toNat ∧ ∃ t, v = .int (0 + (i : Nat) * 1) t), _, (fun i => decide (ns.getD i 0 < ns.getD (i + 1) 0)), rfl, I1, ⟨_, _, rfl, fun b o e => Heap.get?_push_of_some _ (kp1 b o e)⟩, ?_,
    fun A' hA => walks_bound (Walks.range hA h1.objs.size 0 1 j.toNat), ?_, ?_, ?_, ?_, hR⟩
  · show s1.heap.objs.size ≤ (h1.push _).objs.size
    rw [Heap.size_push]
    omega
  · have e1 : (0 : Int) + ((0 : Nat) : Int) * 1 = 0 := by simp
    have e2 : ((j.toNat : Nat) : Int) - ((0 : Nat) : Int) = Builtin.Range.rangeSize 0 j 1 := by rw [rangeSize_one]; split <;> omega
    show IsRangeIter _ _ ((0 : Int) + ((0 : Nat) : Int) * 1) (((j.toNat : Nat) : Int) - ((0 : Nat) : Int)) 1
    rw [e1, e2]
    exact Heap.get?_push_size _ rfl
  · intro b hb
    rw [List.mem_singleton.mp hb]
    show _ < (h1.push _).objs.size ∧ _
    rw [Heap.size_push]
    exact ⟨Nat.lt_succ_self _, Nat.ne_of_gt (Nat.lt_of_lt_of_le hPlt (by rw [sz1]; exact Nat.le_succ _))⟩
  · intro b hb
    rw [List.mem_singleton.mp hb]
    omega
  · intro cenv A' E' i u s2 m2 e1 e2 e3 e4 hA hD hU hu hns hm kk
    obtain ⟨hilt, tu, rfl⟩ := hu
    have e0 : (0 : Int) + ((i : Nat) : Int) * 1 = ((i : Nat) : Int) := by omega
    rw [e0] at hm
    obtain ⟨uv, c, rval, hc, hcell⟩ := cell_of I1 hN hn kX
    cases (show uv = Value.ref a from rval)
    have W := wd_of I1 hP kk e1 hsc e2 e3
    have kd : ∀ z, cenv.kindOf z = scope.names.lookup z := fun z => by
      unfold Env.kindOf
      rw [e1]
    have hcl : cenv.cells.lookup ("value" : Str) = some c := by
      rw [e4, kc, hc]
      rfl
    have hcell2 : s2.heap.IsCell c (some (.ref a)) := let ⟨o, ho, hd⟩ := hcell; ⟨o, kk c o (cell_ne I1 hP hc) ho, hd⟩
    have ht2 : IsTup s2.heap a its.toArray := let ⟨o, ho, hd⟩ := htup; ⟨o, kk a o haP ho, hd⟩
    have hi1 : i + 1 < ns.length := by omega
    have at_ : ∀ (m : Nat), m < ns.length → ∃ t, its[m]? = some (.int (ns.getD m 0) t) := fun m hm => by
      have h1 : (ns.map V.int)[m]? = some (.int (ns.getD m 0)) := by
        rw [List.getElem?_map, List.getElem?_eq_getElem hm, List.getD_eq_getElem?_getD, List.getElem?_eq_getElem hm]
        rfl
      obtain ⟨u, hu, r⟩ := rv.get h1
      obtain ⟨t, rfl⟩ := r
      exact ⟨t, hu⟩
    obtain ⟨t1, h1⟩ := at_ i (by omega)
    obtain ⟨t2, h2⟩ := at_ (i + 1) hi1
    have v1 : Ev X.prog X.w A' cenv s2.heap (.Name "value" p2) (fun u => u = .ref a) := ev_free W.kind (by rw [kd]; exact k2) hcl hcell2
    have v2 : Ev X.prog X.w A' cenv s2.heap (.Name "value" p5) (fun u => u = .ref a) := ev_free W.kind (by rw [kd]; exact k2) hcl hcell2
    have kn1 : Ev X.prog X.w A' cenv s2.heap (.Name "k" p3) (isI (i : Nat)) := (ev_loc W.kind (by rw [kd]; exact k1) hns hm).imp fun u e => ⟨tu, e⟩
    have kn2 : Ev X.prog X.w A' cenv s2.heap (.Name "k" p6) (isI (i : Nat)) := (ev_loc W.kind (by rw [kd]; exact k1) hns hm).imp fun u e => ⟨tu, e⟩
    have hsz : its.toArray.size = ns.length := by rw [List.size_toArray]; exact hlen2
    have sI : ∀ m : Nat, m < ns.length → seqIndex? ((m : Nat) : Int) its.toArray.size = some m := fun m hm => by
      rw [hsz]
      simp only [seqIndex?]
      rw [if_neg (by omega : ¬ ((m : Nat) : Int) < 0)]
      rw [if_pos (by simp; omega)]
      rfl
    have i1 : Ev X.prog X.w A' cenv s2.heap (.Subscript (.Name "value" p2) (.Name "k" p3) p4) (isI (ns.getD i 0)) :=
      (ev_item v1 kn1 ht2 (by omega) (by omega) (sI i (by omega)) (by simpa using h1) (fun _ _ => rfl)).imp fun u e => ⟨t1, e⟩
    have i2 : Ev X.prog X.w A' cenv s2.heap (.Subscript (.Name "value" p5) (.BinOp (.Name "k" p6) .Add (.Constant (.int 1) j1 p7) p8) p9) (isI (ns.getD (i + 1) 0)) :=
      (ev_item v2 (ev_add kn2 ev_int) ht2 (by omega) (by omega) (sI (i + 1) hi1) (by simpa using h2) (fun _ _ => rfl)).imp fun u e => ⟨t2, e⟩
    exact ev_lt i1 i2 (by rfl) s2 _ _ (Grow.refl _) fun z s' e k => ⟨e, k⟩
end
end K06P

set_option maxRecDepth 100000
set_option maxHeartbeats 4000000
/-! all(.. for person, one in enumerate(value)) over a tuple. -/
namespace K06P
open PySem PySem.Spec PyProof.Rows L2 GxR
open PySem.AutoSeq1 (wpAny_loadPart')
theorem meets_enumerate_newT (l : Addr) (items : Array Value) (n : Nat) (dct : Option Addr) (sl : Array (Option Value)) :
    Meets (Builtin.«enumerate.__new__» ⟨[.type "enumerate", .ref l], []⟩) (fun _ R s => s.heap.get? l = some { cls := .type "tuple", dict := dct, data := .seq items n, slots := sl } ∧
      R (.ok (.ret (.ref (s.heap.push { cls := .type "tuple_iterator", data := .fields #[.ref l, .int 0 0] }).objs.size)))
        { s with heap := (s.heap.push { cls := .type "tuple_iterator", data := .fields #[.ref l, .int 0 0] }).push { cls := .type "enumerate", data := .fields #[.none, .bool false, .ref s.heap.objs.size, rawInt 0, .none, .none] } }) :=
  .of_wp fun prog w A R s h => by
    obtain ⟨hp, g, d, tk, os⟩ := s; obtain ⟨hl, h⟩ := h
    have hsub := sub_enumerate
    have hL : Heap.IsTuple (Shared.heap ⟨hp, g, d, tk, os⟩) l items := ⟨_, hl, rfl, n, rfl⟩
    wp_walk using wpAny_loadPart' hl
    refine wpAny_stack_any fun st => wpAny_pure ?_
    split
    · rename_i c _ _ _ _ _
      cases (c == Value.type "enumerate")
      · wp_walk using wpAny_loadPart' hl, wpAny_pyIter_tuple hL
        exact ⟨_, rfl, h⟩
      · wp_walk using wpAny_loadPart' hl, wpAny_pyIter_tuple hL
        exact ⟨_, rfl, h⟩
    · wp_walk using wpAny_loadPart' hl, wpAny_pyIter_tuple hL
      exact ⟨_, rfl, h⟩
theorem call_enumerate_tuple {prog : Program} {w : World} {A : Around} {E : Value → Shared → Prop} {s : Shared} {l : Addr} {items : Array Value} {Q : Value → Shared → Prop} (hL : s.heap.IsTuple l items)
    (h : ∀ h', IsEnum h' (s.heap.objs.size + 1) s.heap.objs.size 0 .none → h'.IsTupleIter s.heap.objs.size l 0 → h'.objs.size = s.heap.objs.size + 2 →
      (∀ b o, s.heap.get? b = some o → h'.get? b = some o) → Q (.ref (s.heap.objs.size + 1)) { s with heap := h' }) :
    wpAny (model prog w) A (call (.type "enumerate") [.ref l]) Q E s := by
  obtain ⟨⟨c, dct, dt, sl⟩, hl, hc, n, hd⟩ := hL
  replace hc : c = .type "tuple" := hc
  replace hd : dt = .seq items n := hd
  subst hc hd
  refine callType_new PySem.F.called_enumerate (by decide) (PySem.F.typeCall_enumerate_1 _) (PySem.F.newCall_enumerate_1 _) (fun obj => PySem.F.args_object_init_2 obj _) PySem.F.entry_enumerate_new
    (meets_enumerate_newT l items n dct sl) ⟨hl, ?_⟩
  have hz : (s.heap.push { cls := .type "tuple_iterator", data := .fields #[.ref l, .int 0 0] }).objs.size = s.heap.objs.size + 1 := Heap.size_push ..
  show _ ∧ _
  rw [hz]
  have he : IsEnum ((s.heap.push { cls := .type "tuple_iterator", data := .fields #[.ref l, .int 0 0] }).push
      { cls := .type "enumerate", data := .fields #[.none, .bool false, .ref s.heap.objs.size, rawInt 0, .none, .none] }) (s.heap.objs.size + 1) s.heap.objs.size 0 .none := by
    have := Heap.get?_push_size (s.heap.push { cls := .type "tuple_iterator", data := .fields #[.ref l, .int 0 0] })
      (o := { cls := .type "enumerate", data := .fields #[.none, .bool false, .ref s.heap.objs.size, rawInt 0, .none, .none] }) rfl
    rw [hz] at this; exact this
  refine ⟨⟨_, he, rfl⟩, h _ he ⟨_, Heap.get?_push_of_some _ (Heap.get?_push_size _ rfl), rfl, rfl⟩ (by rw [Heap.size_push, hz]) fun b o x => Heap.get?_push_of_some _ (Heap.get?_push_of_some _ x)⟩
section
variable {X : Cx} {pins : List (Addr × Obj)} {σ : L2.St} {H : Hp} {s : Shared}
def depB (ns : List Int) (i : Nat) : Bool := inB (.int (ns.getD i 0)) (-1) ((ns.length : Int) - 1) && (ns.getD i 0 != (i : Int))
def tW3 (K : PySem.W.Frag) (P : Addr) (te : TE) : L2.St → Hp → (Nat → (Nat → Bool) → Hp → Prop) → Prop := fun σ H R => tCons te tNil σ H fun vs H1 => ∃ (a : Addr) (ns : List Int), vs = [.ref a] ∧ ns.length ≤ 1000 ∧ SqT K H1 a (ns.map V.int) ∧ TabG H1 P ∧
  σ[0]? = some (some (.ref a)) ∧ R ns.length (depB ns) H1
theorem pw_dep {P f : Addr} {fd : FuncData} {ie : Expr} {scope : Scope} {te : TE} {p0 p1 p2 p3 p4 p5 p6 p7 p8 p9 p10 p11 p12 p13 p14 p15 : Pos} {j1 j2 : Nat} (hr : X.A.depth + 5 < recursionLimit) (hh : X.A.handled = none) (F : Fun X.K "is_in" "is_in" sIsIn f fd) (mf : X.mg "is_in" = some (.ref f))
    (mi : X.mg "isinstance" = none) (mint : X.mg "int" = none) (mb : X.mg "bool" = none) (ml : X.mg "len" = none) (hge : Gl X "enumerate") (hme : X.mg "enumerate" = none)
    (hsc : scope.kind = .function) (k1 : scope.names.lookup ("one" : Str) = some .local) (k1' : scope.names.lookup ("person" : Str) = some .local) (k2 : scope.names.lookup ("value" : Str) = some .free) (k3 : scope.names.lookup ("is_in" : Str) = some .globalImplicit) (k4 : scope.names.lookup ("len" : Str) = some .globalImplicit)
    (kc : (cloFrom X.env.cells scope.names []).lookup ("value" : Str) = some ((X.env.cells.lookup ("value" : Str)).getD 0)) (hN : X.N[0]? = some ("value" : Str)) (kX : X.env.kindOf "value" = some .cell) (hi : PE X ie te)
    (he : starEach [ie] X.env = (false, eval ie X.env) :: starEach [] X.env := by rfl) :
    PW2 X (.Call (.Name "enumerate" p0) [ie] [] p1)
      (.BoolOp .And [.Call (.Name "is_in" p2) [.Name "one" p3, .UnaryOp .USub (.Constant (.int 1) j1 p4) p5, .BinOp (.Call (.Name "len" p6) [.Name "value" p7] [] p8) .Sub (.Constant (.int 1) j2 p9) p10] [] p11, .Compare (.Name "one" p12) [.NotEq] [.Name "person" p13] p14] p15)
      scope "person" "one" P (tW3 X.K P te) := by
  refine ⟨fun pins s σ H R I h => ?_⟩
  have ha : PA X [ie] (tCons te tNil) := pa_cons hi pa_nil he
  refine Call_ (ld_blt I hge hme (by rfl) (PyProof.Rows.callWith_type1 (thn (ha.run p1 pins s σ H _ I h) fun us s1 ⟨vs, H1, I1, r1, q1⟩ => ?_) he rfl))
  obtain ⟨a, ns, e1, hlen, hq, ⟨ps, hP, ht⟩, hn, hR⟩ := q1
  subst e1
  rw [K06R.ref1 r1]
  obtain ⟨its, rv, htup, hz⟩ := I1.tuple hq
  have haP := sqT_ne I1 hq hP
  have hlt : a < s1.heap.objs.size := htup.lt
  have hPlt : P < s1.heap.objs.size := Heap.lt_size (I1.hok P _ hP)
  have hlen2 : its.length = ns.length := by rw [← rv.length, List.length_map]
  refine call_enumerate_tuple (show s1.heap.IsTuple a its.toArray from htup) fun h' hen hti hsz hk => ?_
  have htup' : h'.IsTuple a its.toArray := let ⟨o, ho, hd⟩ := htup; ⟨o, hk a o ho, hd⟩
  refine wpAny_pyIter_enum hen ?_
  have D : ∀ A' : Around, A'.handled = none → Draws X.prog X.w A'.in1 s1.heap.objs.size [s1.heap.objs.size, a] its.toArray.size (fun i v => its.toArray[i]? = some v) (fun i h => h.IsTupleIter s1.heap.objs.size a i ∧ h.IsTuple a its.toArray) :=
    fun A' hA => Draws.tuple (A := A'.in1) hA s1.heap.objs.size a (Nat.ne_of_lt hlt) its.toArray
  have hne : s1.heap.objs.size + 1 ∉ [s1.heap.objs.size, a] := fun z => by
    rcases List.mem_cons.mp z with z | z
    · exact absurd z (Nat.succ_ne_self _)
    · rw [← List.mem_singleton.mp z] at hlt
      exact absurd (Nat.lt_trans (Nat.lt_succ_self _) hlt) (Nat.lt_irrefl _)
  refine ⟨s1, H1, s1.heap.objs.size + 1, [s1.heap.objs.size + 1, s1.heap.objs.size, a], [s1.heap.objs.size + 1, s1.heap.objs.size], its.toArray.size, _, _, _, depB ns, rfl, I1, ⟨h', _, rfl, hk⟩, ?_,
    fun A' hA => (WalksT.enumerateD (A := A') (D A' hA) (s1.heap.objs.size + 1) (Nat.succ_ne_self _) hne (List.mem_cons_self ..)).toU, ?_, ⟨⟨_, hen⟩, hti, htup'⟩, ?_, ?_, ?_, ?_⟩
  · show s1.heap.objs.size ≤ h'.objs.size
    rw [hsz]
    exact Nat.le_add_right _ _
  · rintro i vals ⟨t, x, _, e⟩
    exact ⟨_, _, e⟩
  · intro b hb
    show b < h'.objs.size ∧ _
    rw [hsz]
    rcases List.mem_cons.mp hb with rfl | hb
    · exact ⟨Nat.lt_succ_self _, Nat.ne_of_gt (Nat.lt_succ_of_lt hPlt)⟩
    · rcases List.mem_cons.mp hb with rfl | hb
      · exact ⟨Nat.lt_succ_of_lt (Nat.lt_succ_self _), Nat.ne_of_gt hPlt⟩
      · rw [List.mem_singleton.mp hb]
        exact ⟨Nat.lt_succ_of_lt (Nat.lt_succ_of_lt hlt), haP⟩
  · intro b hb
    rcases List.mem_cons.mp hb with rfl | hb
    · exact Nat.le_succ _
    · rw [List.mem_singleton.mp hb]
      exact Nat.le_refl _
  · intro cenv A' E' i va vb s2 m2 e1 e2 e3 e4 hA hD hU hu hns hm1 hm2 kk
    obtain ⟨t, x, hx, ev⟩ := hu
    have ea : va = .int (i : Nat) t := by
      have := congrArg (fun z : Array Value => z[0]?) ev
      simpa using this
    have eb : vb = x := by
      have := congrArg (fun z : Array Value => z[1]?) ev
      simpa using this
    subst ea eb
    have hx' : its[i]? = some vb := by simpa using hx
    obtain ⟨y, hy, ry⟩ := K06R.vals_at rv hx'
    have hy' : ∃ d, ns[i]? = some d ∧ y = .int d := by
      rw [List.getElem?_map] at hy
      cases q : ns[i]? with
      | none => rw [q] at hy; cases hy
      | some d =>
        rw [q] at hy
        exact ⟨d, rfl, (Option.some.inj hy).symm⟩
    obtain ⟨d, hd, rfl⟩ := hy'
    obtain ⟨td, rfl⟩ := ry
    have egd : ns.getD i 0 = d := by
      rw [List.getD_eq_getElem?_getD, hd]
      rfl
    obtain ⟨uv, c, rval, hc, hcell⟩ := cell_of I1 hN hn kX
    cases (show uv = Value.ref a from rval)
    have W := wd_of I1 hP kk e1 hsc e2 e3
    have kd : ∀ z, cenv.kindOf z = scope.names.lookup z := fun z => by
      unfold Env.kindOf
      rw [e1]
    have hcl : cenv.cells.lookup ("value" : Str) = some c := by
      rw [e4, kc, hc]
      rfl
    have hcell2 : s2.heap.IsCell c (some (.ref a)) := let ⟨o, ho, hd⟩ := hcell; ⟨o, kk c o (cell_ne I1 hP hc) ho, hd⟩
    have ht2 : IsTup s2.heap a its.toArray := let ⟨o, ho, hd⟩ := htup; ⟨o, kk a o haP ho, hd⟩
    have esz : (its.toArray.size : Int) = (ns.length : Int) := by rw [List.size_toArray, hlen2]
    have n1 : Ev X.prog X.w A' cenv s2.heap (.Name "one" p12) (isI d) := (ev_loc W.kind (by rw [kd]; exact k1) hns hm2).imp fun u e => ⟨td, e⟩
    have n2 : Ev X.prog X.w A' cenv s2.heap (.Name "person" p13) (isI (i : Nat)) := (ev_loc W.kind (by rw [kd]; exact k1') hns hm1).imp fun u e => ⟨t, e⟩
    have ln := ev_len (p := p6) (pos := p8) W (by rw [kd]; exact k4) ml (ev_free (A := A') (prog := X.prog) (w := X.w) (pos := p7) W.kind (by rw [kd]; exact k2) hcl hcell2) ht2 (by rw [esz]; omega) rfl
    rw [esz] at ln
    have c1 := ev_isin (p := p2) (pos := p11) (x := .int d) (lo := -1) (hi := (ns.length : Int) - 1) W F mf (by rw [kd]; exact k3) mi mint mb (.int d td) (by omega) (ev_loc (A := A') (prog := X.prog) (w := X.w) (pos := p3) W.kind (by rw [kd]; exact k1) hns hm2) (ev_neg (pos := p5) (ev_int (i := 1) (j := j1) (pos := p4))) (ev_sub (pos := p10) ln (ev_int (i := 1) (j := j2) (pos := p9))) rfl rfl
    have c2 := ev_and (pos := p15) c1 fun _ => ev_one (pos := p15) (op := BoolOp.And) (ev_ne (pos := p14) n1 n2 (by rfl))
    refine c2 s2 _ _ (Grow.refl _) fun z s' e k => ⟨?_, k⟩
    have e' : z = Value.bool (inB (.int d) (-1) ((ns.length : Int) - 1) && (d != (i : Int))) := e
    rw [e']
    show _ = Value.bool (depB ns i)
    unfold depB
    rw [egd]
  · have e : its.toArray.size = ns.length := by rw [List.size_toArray]; exact hlen2
    rw [e]
    exact hR
end
end K06P

set_option maxRecDepth 100000
set_option maxHeartbeats 4000000
/-! is_in, are_deputies, need_deputies, is_lot, need_person, need_holder. -/
namespace K06P
open PySem PySem.Spec PyProof.Rows L2 GxR

/-! ### heaps that grow, but for two tables -/
structure Gr (P1 P2 : Addr) (H H' : Hp) : Prop where
  keep : ∀ b o, b ≠ P1 → b ≠ P2 → H b = some o → H' b = some o
  t1 : TabG H P1 → TabG H' P1
  t2 : TabG H P2 → TabG H' P2
structure Tb (P1 P2 : Addr) (H : Hp) : Prop where
  t1 : TabG H P1
  t2 : TabG H P2
section
variable {P1 P2 : Addr} {K : PySem.W.Frag} {H H1 H2 H' : Hp} {a p : Addr} {xs : List V}
theorem Gr.refl (H : Hp) : Gr P1 P2 H H := ⟨fun _ _ _ _ e => e, fun x => x, fun x => x⟩
theorem Gr.trans (x : Gr P1 P2 H H1) (y : Gr P1 P2 H1 H2) : Gr P1 P2 H H2 := ⟨fun b o h1 h2 e => y.keep b o h1 h2 (x.keep b o h1 h2 e), fun t => y.t1 (x.t1 t), fun t => y.t2 (x.t2 t)⟩
theorem tabG_same {P : Addr} (s : Same H H') (t : TabG H P) : TabG H' P := let ⟨ps, e, q⟩ := t; ⟨ps, s _ _ e, q⟩
theorem Gr.same (s : Same H H') : Gr P1 P2 H H' := ⟨fun b o _ _ e => s b o e, tabG_same s, tabG_same s⟩
theorem Gr.tab1 (s : Tabbed P1 H H') : Gr P1 P2 H H' := ⟨fun b o h1 _ e => (s.2 b h1).trans e, fun _ => s.1, fun t => by
  by_cases h : P2 = P1
  · rw [h]; exact s.1
  · obtain ⟨ps, e, q⟩ := t
    exact ⟨ps, (s.2 P2 h).trans e, q⟩⟩
theorem Gr.tab2 (s : Tabbed P2 H H') : Gr P1 P2 H H' := ⟨fun b o _ h2 e => (s.2 b h2).trans e, fun t => by
  by_cases h : P1 = P2
  · rw [h]; exact s.1
  · obtain ⟨ps, e, q⟩ := t
    exact ⟨ps, (s.2 P1 h).trans e, q⟩, fun _ => s.1⟩
theorem Gr.tb (g : Gr P1 P2 H H') (t : Tb P1 P2 H) : Tb P1 P2 H' := ⟨g.t1 t.t1, g.t2 t.t2⟩
theorem Tb.ne1 (t : Tb P1 P2 H) {b : Addr} {o : HO} (e : H b = some o) (ho : ∀ ps, o ≠ .tbl ps) : b ≠ P1 := fun z => by
  obtain ⟨ps, e', _⟩ := t.t1
  rw [z, e'] at e
  cases e
  exact ho ps rfl
theorem Tb.ne2 (t : Tb P1 P2 H) {b : Addr} {o : HO} (e : H b = some o) (ho : ∀ ps, o ≠ .tbl ps) : b ≠ P2 := fun z => by
  obtain ⟨ps, e', _⟩ := t.t2
  rw [z, e'] at e
  cases e
  exact ho ps rfl
theorem Gr.at (g : Gr P1 P2 H H') (t : Tb P1 P2 H) {b : Addr} {o : HO} (e : H b = some o) (ho : ∀ ps, o ≠ .tbl ps) : H' b = some o := g.keep b o (t.ne1 e ho) (t.ne2 e ho) e
theorem Gr.seq (g : Gr P1 P2 H H') (t : Tb P1 P2 H) (h : SqL K H a xs) : SqL K H' a xs := by
  rcases h with (h | ⟨o, h⟩) | h
  · exact .inl (.inl (g.at t h (fun _ z => by cases z)))
  · exact .inl (.inr ⟨o, g.at t h (fun _ z => by cases z)⟩)
  · exact .inr h
theorem Gr.tup (g : Gr P1 P2 H H') (t : Tb P1 P2 H) (h : SqT K H a xs) : SqT K H' a xs := by
  rcases h with (h | ⟨o, h⟩) | h
  · exact .inl (.inl (g.at t h (fun _ z => by cases z)))
  · exact .inl (.inr ⟨o, g.at t h (fun _ z => by cases z)⟩)
  · exact .inr h
theorem Same.tup (e : Same H H') (h : SqT K H a xs) : SqT K H' a xs := by
  rcases h with (h | ⟨o, h⟩) | h
  · exact .inl (.inl (e _ _ h))
  · exact .inl (.inr ⟨o, e _ _ h⟩)
  · exact .inr h
theorem same_upd {o : HO} (h : H p = none) : Same H (upd H p o) := fun b x e => by
  rw [upd_ne (ne_of_none e h)]
  exact e
end

/-! ### a def whose code object is told -/
structure FunC (K : PySem.W.Frag) (x qual : Str) (st : Stmt) (f : Addr) (fd : FuncData) (c : Addr) : Prop where
  ex : ∃ (oc : Value) (od : Option Addr) (kV doc pm : Value) (an : Option Addr) (ct : Value) (osl : Array (Option Value)),
    fd = PySem.W.fnOf x qual (defArgs st) (defBody st) (defScope st) .none kV doc pm an (.ref c) ct ∧ K.lookup f = some ⟨oc, od, .func fd, osl⟩ ∧ PySem.W.codeIn K (.ref c) qual = true
  kp : PySem.W.keepIn K (.ref f) = true
theorem FunC.ok {P : Program} {w : World} {K : PySem.W.Frag} {mg : Str → Option Value} {base : Heap} {x qual : Str} {st : Stmt} {f c : Addr} {fd : FuncData} {N ps : List Str} {k : Nat} {sp : Sp} (F : FunC K x qual st f fd c) (S : FnScope N ps (defScope st)) (len : ∀ vs H Q E, sp vs H Q E → vs.length = ps.length)
    (hbody : ∀ (A : Around) (outer : List Env) (s : Shared) (H : Hp) (vs : List V) (Q : VK) (E : XK), Room k (A.deeper (envOfC qual (defScope st) s.heap.objs.size f (.ref c))) → sp vs H Q E →
      ∃ t, PSs (cxOf CX0 P w K mg base N qual (defScope st) f (.ref c) A outer s H E).nox (defBody st) t ∧ t { nx := fun _ H' => Q .non H', rt := Q } (start N vs) H) : FnOk P w K mg base CX0 (k + 1) f fd ps sp := by
  obtain ⟨oc, od, kV, doc, pm, an, ct, osl, rfl, lk, hcd⟩ := F.ex
  refine fn_of lk hcd S len fun A outer s H vs Q E hr hsp => ?_
  obtain ⟨t, h, q⟩ := hbody A outer s H vs Q E hr hsp
  exact ⟨t, h.nox, q⟩
theorem FunC.binds {K : PySem.W.Frag} {x qual : Str} {st : Stmt} {f c : Addr} {fd : FuncData} {ps : List Str} (F : FunC K x qual st f fd c)
    (h : ∀ (kV doc pm : Value) (an : Option Addr) (cdv ct : Value) (us : List Value), us.length = ps.length → bindArgs (PySem.W.fnOf x qual (defArgs st) (defBody st) (defScope st) .none kV doc pm an cdv ct) ⟨us, []⟩ = pure (ps.zip us)) : Binds K fd ps [] := by
  obtain ⟨oc, od, kV, doc, pm, an, ct, osl, rfl, lk, hcd⟩ := F.ex
  exact .all (h kV doc pm an (.ref c) ct)

/-- the module's names -/
structure Names (mg : Str → Option Value) : Prop where
  isinstance : mg "isinstance" = none
  int : mg "int" = none
  bool : mg "bool" = none
  tuple : mg "tuple" = none
  list : mg "list" = none
  str : mg "str" = none
  len : mg "len" = none
  all : mg "all" = none
  enumerate : mg "enumerate" = none
  range : mg "range" = none
  sorted : mg "sorted" = none
  min : mg "min" = none
  max : mg "max" = none
  people : ∃ t, mg "MOST_PEOPLE" = some (.int 6 t)
  wanted : ∃ t, mg "MOST_WANTED" = some (.int 6 t)

section
variable {P : Program} {w : World} {K : PySem.W.Frag} {mg : Str → Option Value} {base : Heap} {P1 P2 c1 c2 : Addr}

/-! ### is_in -/
def spIsIn : Sp := fun vs H Q _ => ∃ i lo hi : Int, vs = [.int i, .int lo, .int hi] ∧ Q (.bl (decide (lo ≤ i) && decide (i ≤ hi))) H
theorem ok_isin {f : Addr} {fd : FuncData} {k : Nat} (F : Fun K "is_in" "is_in" sIsIn f fd) (M : Names mg) : FnOk P w K mg base CX0 (k + 1) f fd ["value", "least", "most"] spIsIn := by
  refine F.ok scIsIn (fun vs H Q E h => ?_) (fun cdv A outer s H vs Q E hr h => ?_)
  · obtain ⟨i, lo, hi, rfl, _⟩ := h
    rfl
  · obtain ⟨i, lo, hi, rfl, q⟩ := h
    refine ⟨_, pss_one (ps_ret (pe_and (pe_callB call_isi (by rfl) M.isinstance (by decide +kernel) (pa_cons (pv 0) (pa_cons (pe_bltn (v := .ty "int") (by rfl) M.int (by decide +kernel) rfl) pa_nil)))
      (pe_and (pe_not (pe_callB call_isi (by rfl) M.isinstance (by decide +kernel) (pa_cons (pv 0) (pa_cons (pe_bltn (v := .ty "bool") (by rfl) M.bool (by decide +kernel) rfl) pa_nil)))) (pe_one (pe_chain op_le op_le (pv 1) (pv 0) (pv 2)))))), ?_⟩
    refine ⟨.int i, rfl, .int i, .ty "int", .type "int", .type "int", true, rfl, .ty _, (.base (.int _)), kit_ty (by decide +kernel), true, rfl, iteT ?_⟩
    refine ⟨.int i, rfl, .int i, .ty "bool", .type "int", .type "bool", false, rfl, .ty _, (.base (.int _)), kit_ty (by decide +kernel), false, rfl, true, rfl, iteT ?_⟩
    refine ⟨.int lo, rfl, .int i, rfl, lo, i, rfl, rfl, decide (lo ≤ i), rfl, ?_⟩
    cases h : decide (lo ≤ i) with
    | true =>
      refine iteT ⟨.int hi, rfl, i, hi, rfl, rfl, ?_⟩
      rw [h] at q
      exact q
    | false =>
      refine iteF ?_
      rw [h] at q
      exact q

/-! ### are_deputies, need_deputies -/
theorem tyTup {K : PySem.W.Frag} {H : Hp} {a : Addr} {xs : List V} (h : SqT K H a xs) : TyX K H (.ref a) (.type "tuple") := by
  rcases h with (h | ⟨o, h⟩) | ⟨o, its, n, hk, hc, _⟩
  · exact .base (.tup h)
  · exact .fTuple h
  · exact .kTuple hk hc
def spAreDep (K : PySem.W.Frag) (P1 : Addr) : Sp := fun vs H Q _ => ∃ (a : Addr) (ds : List Int), vs = [.ref a] ∧ SqT K H a (ds.map V.int) ∧ K06.Deps ds ∧ TabG H P1 ∧ ∀ H', Tabbed P1 H H' → Q (.bl true) H'
theorem dep_all {ds : List Int} (D : K06.Deps ds) : (List.range ds.length).all (depB ds) = true := by
  rw [List.all_eq_true]
  intro i hi
  have hi' := List.mem_range.mp hi
  have e : ds[i]? = some ds[i] := List.getElem?_eq_getElem hi'
  have q := D.ok i _ e
  have e2 : ds.getD i 0 = ds[i] := by
    rw [List.getD_eq_getElem?_getD, e]
    rfl
  show ((decide ((-1 : Int) ≤ ds.getD i 0) && decide (ds.getD i 0 ≤ (ds.length : Int) - 1)) && (ds.getD i 0 != (i : Int))) = true
  rw [e2, decide_eq_true (by omega : (-1 : Int) ≤ ds[i]), decide_eq_true (by omega : ds[i] ≤ (ds.length : Int) - 1)]
  simp only [Bool.and_self, Bool.true_and, bne_iff_ne, ne_eq]
  exact q.2.2
theorem ok_aredep {f g : Addr} {fd gd : FuncData} {k : Nat} (F : FunC K "are_deputies" "are_deputies" sAreDep f fd c1) (TB : TabB base mg c1 P1) (G : Fun K "is_in" "is_in" sIsIn g gd) (mg1 : mg "is_in" = some (.ref g)) (M : Names mg) :
    FnOk P w K mg base CX0 (k + 1) f fd ["value"] (spAreDep K P1) := by
  refine F.ok scAreDep (fun vs H Q E h => ?_) (fun A outer s H vs Q E hr h => ?_)
  · obtain ⟨a, ds, rfl, _⟩ := h
    rfl
  · obtain ⟨a, ds, rfl, hS, D, hT, q⟩ := h
    obtain ⟨tp, mp⟩ := M.people
    refine ⟨_, pss_cons (ps_if (PW.pt (pw_or (pt_not (pt_val (pe_callB call_isi (by rfl) M.isinstance (by decide +kernel) (pa_cons (pv 0) (pa_cons (pe_bltn (v := .ty "tuple") (by rfl) M.tuple (by decide +kernel) rfl) pa_nil)))))
        (pw_or1 (pt_not (pt_chain op_le op_le pe_int (pe_callB call_len_seq (by rfl) M.len PySem.boot_len (pa_cons (pv 0) pa_nil)) (pe_glob (v := .int 6) (by rfl) mp ⟨_, rfl⟩)))))) (pss_one (ps_ret pe_bl)) pss_nil)
      (pss_one (ps_ret (pe_allW2 (t := ?tt) hr (by rfl) M.all TB rfl ?S ?hxb ?hab ?hi (fun _ => rfl)))), ?_⟩
    case S => exact ⟨rfl, rfl, by decide +kernel, by decide +kernel, by decide +kernel, fun y hy e => by
      have hy' : y.1 = ("value" : Str) := by
        revert e
        revert y
        decide +kernel
      rw [hy']
      exact ⟨_, rfl⟩⟩
    case hxb => decide +kernel
    case hab => decide +kernel
    case tt => exact tW3 K P1 (tVar 0)
    case hi =>
      refine pw_dep ?d hr.hd G mg1 M.isinstance M.int M.bool M.len (by rfl) M.enumerate ?a1 ?a2 ?a3 ?a4 ?a5 ?a6 ?a7 ?a8 ?a9 (pv 0) ?he
      case d =>
        have := hr.dp
        show (A.deeper _).depth + 5 < recursionLimit
        omega
      all_goals first | rfl | decide +kernel
    refine ⟨.ref a, rfl, .ref a, .ty "tuple", .type "tuple", .type "tuple", true, rfl, .ty _, tyTup hS, kit_ty (by decide +kernel), true, rfl, iteF ?_⟩
    refine ⟨.ref a, rfl, a, _, rfl, .inr hS, 1, _, rfl, rfl, true, ?_, iteT ⟨_, 6, rfl, rfl, true, ?_, iteF ?_⟩⟩
    · rw [List.length_map]
      show V.bl (decide ((1 : Int) ≤ (ds.length : Int))) = _
      rw [decide_eq_true (by have := D.lo; omega)]
    · rw [List.length_map]
      show V.bl (decide ((ds.length : Int) ≤ 6)) = _
      rw [decide_eq_true (by have := D.hi; omega)]
    · refine ⟨.ref a, rfl, a, ds, rfl, by have := D.hi; omega, hS, hT, rfl, hT, fun H2 hH2 => ?_⟩
      rw [dep_all D]
      exact q H2 hH2
end
end K06P

set_option maxRecDepth 100000
set_option maxHeartbeats 4000000
/-! need_deputies, is_lot, need_person, need_holder, need_wanted, need_most. -/
namespace K06P
open PySem PySem.Spec PyProof.Rows L2 GxR
/-- a def of the module, called by its name -/
structure Cal (P : Program) (w : World) (K : PySem.W.Frag) (mg : Str → Option Value) (base : Heap) (x : Str) (k : Nat) (ps : List Str) (sp : Sp) : Prop where
  ex : ∃ (f : Addr) (fd : FuncData), mg x = some (.ref f) ∧ PySem.W.keepIn K (.ref f) = true ∧ Binds K fd ps [] ∧ FnOk P w K mg base CX0 k f fd ps sp
theorem pe_cal {X : Cx} {x : Str} {k : Nat} {ps : List Str} {sp : Sp} {p pos : Pos} {e : Expr} {es : List Expr} {t : TA} (C : Cal X.prog X.w X.K X.mg X.base x k ps sp) (hr : Room k X.A) (hg : Gl X x) (ha : PA X (e :: es) t)
    (hdb : (x == ("__debug__" : Str)) = false := by decide) (he : starEach (e :: es) X.env = (false, eval e X.env) :: starEach es X.env := by rfl) (hpl : (backTo pos (starEach es X.env)).any (·.1) = false := by rfl) :
    PE X (.Call (.Name x p) (e :: es) [] pos) (tCall sp [] E0 t) := by
  obtain ⟨f, fd, hm, hk, hb, F⟩ := C.ex
  exact pe_call F hr hg hm hk hb .nil pass0 ha hdb he hpl

section
variable {P : Program} {w : World} {K : PySem.W.Frag} {mg : Str → Option Value} {base : Heap} {P1 P2 c1 c2 : Addr}
def spNeedDep (K : PySem.W.Frag) (P1 : Addr) : Sp := fun vs H Q _ => ∃ (a : Addr) (ds : List Int), vs = [.ref a] ∧ SqT K H a (ds.map V.int) ∧ K06.Deps ds ∧ TabG H P1 ∧ ∀ H' v, Tabbed P1 H H' → Q v H'
theorem ok_needdep {f : Addr} {fd : FuncData} (F : Fun K "need_deputies" "need_deputies" sNeedDep f fd) (CA : Cal P w K mg base "are_deputies" 1 ["value"] (spAreDep K P1)) : FnOk P w K mg base CX0 2 f fd ["deputies"] (spNeedDep K P1) := by
  refine F.ok scNeedDep (fun vs H Q E h => ?_) (fun cdv A outer s H vs Q E hr h => ?_)
  · obtain ⟨a, ds, rfl, _⟩ := h
    rfl
  · obtain ⟨a, ds, rfl, hS, D, hT, q⟩ := h
    refine ⟨_, pss_one (ps_if (pt_not (pt_val (pe_cal CA hr (by rfl) (pa_cons (pv 0) pa_nil)))) (pss_one ps_never) pss_nil), ?_⟩
    exact ⟨.ref a, rfl, a, ds, rfl, hS, D, hT, fun H' hH => ⟨true, rfl, iteF (q H' _ hH)⟩⟩

/-! ### is_lot -/
def spIsLot (K : PySem.W.Frag) (P2 : Addr) : Sp := fun vs H Q _ => ∃ (n : Int) (x : V), vs = [.int n, x] ∧
  ((∃ (a : Addr) (xs : List V), x = .ref a ∧ SqT K H a xs ∧ xs.length ≤ 1000 ∧ (∀ x ∈ xs, (∃ i, x = .int i) ∨ x = .non) ∧ TabG H P2 ∧ ∀ b H', (b = true ↔ ∃ ns : List Int, xs = ns.map V.int ∧ ns.Pairwise (· < ·) ∧ ∀ x ∈ ns, 0 ≤ x ∧ x < n) → Tabbed P2 H H' → Q (.bl b) H') ∨
   (∃ t, TyX K H x (.type t) ∧ kitB t "tuple" = some false ∧ Q (.bl false) H))
theorem ints_of : ∀ (xs : List V), (∀ x ∈ xs, ∃ i, x = V.int i) → ∃ ns : List Int, xs = ns.map V.int
  | [], _ => ⟨[], rfl⟩
  | x :: r, h => by
    obtain ⟨i, hi⟩ := h x (List.mem_cons_self ..)
    obtain ⟨ns, hn⟩ := ints_of r fun y hy => h y (List.mem_cons_of_mem _ hy)
    exact ⟨i :: ns, by rw [hi, hn]; rfl⟩
theorem inb_all {xs : List V} {n : Int} : (List.range xs.length).all (fun i => inB (xs.getD i .non) 0 (n - 1)) = true ↔ ∃ ns : List Int, xs = ns.map V.int ∧ ∀ x ∈ ns, 0 ≤ x ∧ x < n := by
  rw [List.all_eq_true]
  constructor
  · intro h
    have at_ : ∀ x ∈ xs, inB x 0 (n - 1) = true := fun x hx => by
      obtain ⟨i, hi⟩ := List.getElem?_of_mem hx
      have hl : i < xs.length := (List.getElem?_eq_some_iff.mp hi).1
      have q := h i (List.mem_range.mpr hl)
      rw [getD_of hi] at q
      exact q
    obtain ⟨ns, hn⟩ := ints_of xs fun x hx => by
      have q := at_ x hx
      cases x with
      | int i => exact ⟨i, rfl⟩
      | _ => cases q
    refine ⟨ns, hn, fun x hx => ?_⟩
    have q := at_ (V.int x) (by rw [hn]; exact List.mem_map.mpr ⟨x, hx, rfl⟩)
    have q' : (decide ((0 : Int) ≤ x) && decide (x ≤ n - 1)) = true := q
    rw [Bool.and_eq_true, decide_eq_true_eq, decide_eq_true_eq] at q'
    omega
  · rintro ⟨ns, rfl, h⟩ i hi
    rw [List.length_map] at hi
    have hi' := List.mem_range.mp hi
    have e : (ns.map V.int)[i]? = some (.int ns[i]) := by
      rw [List.getElem?_map, List.getElem?_eq_getElem hi']
      rfl
    rw [getD_of e]
    have q := h ns[i] (List.getElem_mem hi')
    show (decide ((0 : Int) ≤ ns[i]) && decide (ns[i] ≤ n - 1)) = true
    rw [decide_eq_true (by omega : (0 : Int) ≤ ns[i]), decide_eq_true (by omega : ns[i] ≤ n - 1)]
    rfl
theorem asc_all : ∀ (ns : List Int), (List.range ((ns.length : Int) - 1).toNat).all (fun i => decide (ns.getD i 0 < ns.getD (i + 1) 0)) = true ↔ ns.Pairwise (· < ·)
  | [] => by simp
  | [x] => by simp
  | x :: y :: r => by
    have ih := asc_all (y :: r)
    have e1 : (((x :: y :: r).length : Int) - 1).toNat = r.length + 1 := by
      simp only [List.length_cons]
      omega
    have e2 : (((y :: r).length : Int) - 1).toNat = r.length := by
      simp only [List.length_cons]
      omega
    rw [e2, List.all_eq_true] at ih
    rw [e1, List.all_eq_true]
    constructor
    · intro h
      have h0 : x < y := by
        have := h 0 (List.mem_range.mpr (Nat.succ_pos _))
        simpa using this
      have hr : (y :: r).Pairwise (· < ·) := ih.mp fun i hi => by
        have := h (i + 1) (List.mem_range.mpr (Nat.succ_lt_succ (List.mem_range.mp hi)))
        simpa using this
      rw [List.pairwise_cons]
      refine ⟨fun z hz => ?_, hr⟩
      rcases List.mem_cons.mp hz with e | hz
      · rw [e]
        exact h0
      · rw [List.pairwise_cons] at hr
        have := hr.1 z hz
        omega
    · intro h i hi
      rw [List.pairwise_cons] at h
      cases i with
      | zero =>
        have := h.1 y (List.mem_cons_self ..)
        simpa using this
      | succ i =>
        have := ih.mpr h.2 i (List.mem_range.mpr (Nat.lt_of_succ_lt_succ (List.mem_range.mp hi)))
        simpa using this
theorem ok_islot {f g : Addr} {fd gd : FuncData} {k : Nat} (F : FunC K "is_lot" "is_lot" sIsLot f fd c2) (TB : TabB base mg c2 P2) (G : Fun K "is_in" "is_in" sIsIn g gd) (mg1 : mg "is_in" = some (.ref g)) (M : Names mg) :
    FnOk P w K mg base CX0 (k + 1) f fd ["size", "value"] (spIsLot K P2) := by
  refine F.ok scIsLot (fun vs H Q E h => ?_) (fun A outer s H vs Q E hr h => ?_)
  · obtain ⟨n, x, rfl, _⟩ := h
    rfl
  · obtain ⟨n, x, rfl, hq⟩ := h
    have hdp : (A.deeper (envOfC "is_lot" (defScope sIsLot) s.heap.objs.size f (.ref c2))).depth + 5 < recursionLimit := by
      have := hr.dp
      omega
    refine ⟨_, pss_cons (ps_if (PW.pt (pw_or (pt_not (pt_val (pe_callB call_isi (by rfl) M.isinstance (by decide +kernel) (pa_cons (pv 1) (pa_cons (pe_bltn (v := .ty "tuple") (by rfl) M.tuple (by decide +kernel) rfl) pa_nil)))))
        (pw_or1 (pt_not (pt_val (pe_allW (t := ?t1) hr (by rfl) M.all TB rfl ?S1 ?h1 (fun _ => rfl))))))) (pss_one (ps_ret pe_bl)) pss_nil)
      (pss_one (ps_ret (pe_allW (t := ?t2) hr (by rfl) M.all TB rfl ?S2 ?h2 (fun _ => rfl)))), ?_⟩
    case S1 => exact ⟨rfl, rfl, by decide +kernel, by decide +kernel, by decide +kernel, fun y hy e => by
      have hy' : y.1 = ("size" : Str) := by
        revert e
        revert y
        decide +kernel
      rw [hy']
      exact ⟨_, rfl⟩⟩
    case S2 => exact ⟨rfl, rfl, by decide +kernel, by decide +kernel, by decide +kernel, fun y hy e => by
      have hy' : y.1 = ("value" : Str) := by
        revert e
        revert y
        decide +kernel
      rw [hy']
      exact ⟨_, rfl⟩⟩
    case t1 => exact tW1 K P2 0 (tVar 1)
    case t2 => exact tW2 K P2 1 (tOp (rI0 fun i j => .int (i - j)) (tCB (fun xs H Q => ∃ p ys, xs = [.ref p] ∧ (SqL K H p ys ∨ SqT K H p ys) ∧ Q (.int ys.length) H) (tCons (tVar 1) tNil)) (tC (.int 1)))
    case h1 =>
      refine pw_lot1 hdp hr.hd G mg1 M.isinstance M.int M.bool ?a1 ?a2 ?a3 ?a4 ?a5 ?a6 ?a7 (pv 1)
      all_goals first | rfl | decide +kernel
    case h2 =>
      refine pw_lot2 hdp hr.hd (by rfl) M.range ?b1 ?b2 ?b3 ?b4 ?b5 ?b6 (pe_op op_sub (pe_callB call_len_seq (by rfl) M.len PySem.boot_len (pa_cons (pv 1) pa_nil)) pe_int) ?he
      all_goals first | rfl | decide +kernel
    rcases hq with ⟨a, xs, rfl, hS, hlen, hpl, hT, q⟩ | ⟨t, ht, hk, q⟩
    · refine ⟨.ref a, rfl, .ref a, .ty "tuple", .type "tuple", .type "tuple", true, rfl, .ty _, tyTup hS, kit_ty (by decide +kernel), true, rfl, iteF ?_⟩
      refine ⟨.ref a, rfl, a, xs, n, rfl, hS, hT, hpl, rfl, hT, fun H2 hH2 => ⟨_, rfl, ?_⟩⟩
      cases hb : (List.range xs.length).all (fun i => inB (xs.getD i .non) 0 (n - 1)) with
      | false =>
        refine iteT (q false H2 ⟨(fun z => by cases z), fun ⟨ns, e, _, z⟩ => ?_⟩ hH2)
        have := inb_all.mpr ⟨ns, e, z⟩
        rw [hb] at this
        cases this
      | true =>
        refine iteF ?_
        obtain ⟨ns, e, hns⟩ := inb_all.mp hb
        subst e
        have hS2 : SqT K H2 a (ns.map V.int) := (Gr.tab2 (P1 := P2) hH2).tup ⟨hT, hT⟩ hS
        rw [List.length_map] at hlen
        refine ⟨.ref a, rfl, a, _, rfl, .inr hS2, ((ns.map V.int).length : Int), 1, rfl, rfl, _, a, ns, rfl, ?_, hlen, hS2, hH2.1, rfl, hH2.1, fun H3 hH3 => ?_⟩
        · rw [List.length_map]
        · rw [List.length_map]
          refine q _ H3 ⟨fun z => ⟨ns, rfl, (asc_all ns).mp z, hns⟩, fun ⟨ms, e, hp, _⟩ => ?_⟩ ⟨hH3.1, fun b hb => (hH3.2 b hb).trans (hH2.2 b hb)⟩
          have : ms = ns := (List.map_inj_right fun x y z => V.int.inj z).mp e.symm
          rw [this] at hp
          exact (asc_all ns).mpr hp
    · refine ⟨x, rfl, x, .ty "tuple", .type t, .type "tuple", false, rfl, .ty _, ht, kit_ty hk, false, rfl, iteT q⟩

/-! ### need_person, need_holder -/
def spNeedPer (K : PySem.W.Frag) : Sp := fun vs H Q _ => ∃ (a : Addr) (ds : List Int) (p : Int), vs = [.ref a, .int p] ∧ SqT K H a (ds.map V.int) ∧ K06.Per ds p ∧ ∀ v, Q v H
theorem ok_needper {f : Addr} {fd : FuncData} (F : Fun K "need_person" "need_person" sNeedPer f fd) (CI : Cal P w K mg base "is_in" 1 ["value", "least", "most"] spIsIn) (M : Names mg) : FnOk P w K mg base CX0 2 f fd ["deputies", "person"] (spNeedPer K) := by
  refine F.ok scNeedPer (fun vs H Q E h => ?_) (fun cdv A outer s H vs Q E hr h => ?_)
  · obtain ⟨a, ds, p, rfl, _⟩ := h
    rfl
  · obtain ⟨a, ds, p, rfl, hS, hp, q⟩ := h
    refine ⟨_, pss_one (ps_if (pt_not (pt_val (pe_cal CI hr (by rfl) (pa_cons (pv 1) (pa_cons pe_int (pa_cons (pe_op op_sub (pe_callB call_len_seq (by rfl) M.len PySem.boot_len (pa_cons (pv 0) pa_nil)) pe_int) pa_nil)))))) (pss_one ps_never) pss_nil), ?_⟩
    refine ⟨.int p, rfl, .ref a, rfl, a, _, rfl, .inr hS, _, 1, rfl, rfl, p, 0, _, rfl, true, ?_, iteF (q _)⟩
    rw [List.length_map]
    have h1 := hp.1
    have h2 := hp.2
    rw [decide_eq_true h1, decide_eq_true (by omega : p ≤ (ds.length : Int) - 1)]
    rfl
def spNeedHold (K : PySem.W.Frag) : Sp := fun vs H Q _ => ∃ (a : Addr) (ds : List Int) (p : Int), vs = [.ref a, .int p] ∧ SqT K H a (ds.map V.int) ∧ -1 ≤ p ∧ p < ds.length ∧ ∀ v, Q v H
theorem ok_needhold {f : Addr} {fd : FuncData} (F : Fun K "need_holder" "need_holder" sNeedHold f fd) (CI : Cal P w K mg base "is_in" 1 ["value", "least", "most"] spIsIn) (M : Names mg) : FnOk P w K mg base CX0 2 f fd ["deputies", "other"] (spNeedHold K) := by
  refine F.ok scNeedHold (fun vs H Q E h => ?_) (fun cdv A outer s H vs Q E hr h => ?_)
  · obtain ⟨a, ds, p, rfl, _⟩ := h
    rfl
  · obtain ⟨a, ds, p, rfl, hS, h1, h2, q⟩ := h
    refine ⟨_, pss_one (ps_if (pt_not (pt_val (pe_cal CI hr (by rfl) (pa_cons (pv 1) (pa_cons (pe_un un_neg pe_int) (pa_cons (pe_op op_sub (pe_callB call_len_seq (by rfl) M.len PySem.boot_len (pa_cons (pv 0) pa_nil)) pe_int) pa_nil)))))) (pss_one ps_never) pss_nil), ?_⟩
    refine ⟨.int p, rfl, 1, rfl, .ref a, rfl, a, _, rfl, .inr hS, _, 1, rfl, rfl, p, -1, _, rfl, true, ?_, iteF (q _)⟩
    rw [List.length_map]
    rw [decide_eq_true h1, decide_eq_true (by omega : p ≤ (ds.length : Int) - 1)]
    rfl
def spNeedWanted (K : PySem.W.Frag) (P1 : Addr) : Sp := fun vs H Q _ => ∃ (a : Addr) (ds : List Int) (p m : Int), vs = [.ref a, .int p, .int m] ∧ SqT K H a (ds.map V.int) ∧ K06.Deps ds ∧ TabG H P1 ∧ K06.Per ds p ∧ 0 ≤ m ∧ m ≤ 6 ∧ ∀ H' v, Tabbed P1 H H' → Q v H'
theorem tabbed_ref (P : Addr) {H : Hp} (t : TabG H P) : Tabbed P H H := ⟨t, fun _ _ => rfl⟩
theorem tbd_trans {P : Addr} {H H1 H2 : Hp} (x : Tabbed P H H1) (y : Tabbed P H1 H2) : Tabbed P H H2 := ⟨y.1, fun b h => (y.2 b h).trans (x.2 b h)⟩
theorem tbd_tup {P a : Addr} {H H' : Hp} {xs : List V} (x : Tabbed P H H') (t : TabG H P) (h : SqT K H a xs) : SqT K H' a xs := (Gr.tab1 (P2 := P) x).tup ⟨t, t⟩ h
theorem ok_needwanted {f : Addr} {fd : FuncData} (F : Fun K "need_wanted" "need_wanted" sNeedWant f fd) (CD : Cal P w K mg base "need_deputies" 2 ["deputies"] (spNeedDep K P1)) (CP : Cal P w K mg base "need_person" 2 ["deputies", "person"] (spNeedPer K)) (CI : Cal P w K mg base "is_in" 1 ["value", "least", "most"] spIsIn) (M : Names mg) : FnOk P w K mg base CX0 3 f fd ["deputies", "person", "many"] (spNeedWanted K P1) := by
  refine F.ok scNeedWant (fun vs H Q E h => ?_) (fun cdv A outer s H vs Q E hr h => ?_)
  · obtain ⟨a, ds, p, m, rfl, _⟩ := h
    rfl
  · obtain ⟨a, ds, p, m, rfl, hS, D, hT, hp, h1, h2, q⟩ := h
    obtain ⟨tp, mp⟩ := M.wanted
    have hr1 := hr.mono (show 1 ≤ 2 by omega)
    refine ⟨_, pss_cons (ps_expr (pe_cal CD hr (by rfl) (pa_cons (pv 0) pa_nil))) (pss_cons (ps_expr (pe_cal CP hr (by rfl) (pa_cons (pv 0) (pa_cons (pv 1) pa_nil)))) (pss_one (ps_if (pt_not (pt_val (pe_cal CI hr1 (by rfl) (pa_cons (pv 2) (pa_cons pe_int (pa_cons (pe_glob (v := .int 6) (by rfl) mp ⟨_, rfl⟩) pa_nil)))))) (pss_one ps_never) pss_nil))), ?_⟩
    refine ⟨.ref a, rfl, a, ds, rfl, hS, D, hT, fun H1 v1 hH1 => ?_⟩
    have hS1 := tbd_tup hH1 hT hS
    refine ⟨.ref a, rfl, .int p, rfl, a, ds, p, rfl, hS1, hp, fun v2 => ?_⟩
    refine ⟨.int m, rfl, m, 0, 6, rfl, true, ?_, iteF (q _ _ hH1)⟩
    rw [decide_eq_true h1, decide_eq_true h2]
    rfl
def spNeedMost (K : PySem.W.Frag) (P1 : Addr) : Sp := fun vs H Q _ => ∃ (a : Addr) (ds : List Int) (m : Int), vs = [.ref a, .int m] ∧ SqT K H a (ds.map V.int) ∧ K06.Deps ds ∧ TabG H P1 ∧ 0 ≤ m ∧ m ≤ 6 ∧ ∀ H' v, Tabbed P1 H H' → Q v H'
theorem ok_needmost {f : Addr} {fd : FuncData} (F : Fun K "need_most" "need_most" sNeedMost f fd) (CD : Cal P w K mg base "need_deputies" 2 ["deputies"] (spNeedDep K P1)) (CI : Cal P w K mg base "is_in" 1 ["value", "least", "most"] spIsIn) (M : Names mg) : FnOk P w K mg base CX0 3 f fd ["deputies", "many"] (spNeedMost K P1) := by
  refine F.ok scNeedMost (fun vs H Q E h => ?_) (fun cdv A outer s H vs Q E hr h => ?_)
  · obtain ⟨a, ds, m, rfl, _⟩ := h
    rfl
  · obtain ⟨a, ds, m, rfl, hS, D, hT, h1, h2, q⟩ := h
    obtain ⟨tp, mp⟩ := M.wanted
    have hr1 := hr.mono (show 1 ≤ 2 by omega)
    refine ⟨_, pss_cons (ps_expr (pe_cal CD hr (by rfl) (pa_cons (pv 0) pa_nil))) (pss_one (ps_if (pt_not (pt_val (pe_cal CI hr1 (by rfl) (pa_cons (pv 1) (pa_cons pe_int (pa_cons (pe_glob (v := .int 6) (by rfl) mp ⟨_, rfl⟩) pa_nil)))))) (pss_one ps_never) pss_nil)), ?_⟩
    refine ⟨.ref a, rfl, a, ds, rfl, hS, D, hT, fun H1 v1 hH1 => ?_⟩
    refine ⟨.int m, rfl, m, 0, 6, rfl, true, ?_, iteF (q _ _ hH1)⟩
    rw [decide_eq_true h1, decide_eq_true h2]
    rfl
end
end K06P

set_option maxRecDepth 100000
set_option maxHeartbeats 4000000
/-! chain_of, holder_of, all_holders, all_loads; the law's own holder and holders. -/
namespace K06P
open PySem PySem.Spec PyProof.Rows L2 GxR
theorem inV_ints (x : Int) (ns : List Int) : inV (.int x) (ns.map V.int) = decide (x ∈ ns) := by
  induction ns with
  | nil => rfl
  | cons y r ih =>
    show (eqV (.int y) (.int x) || inV (.int x) (r.map V.int)) = _
    rw [ih]
    show ((y == x) || decide (x ∈ r)) = _
    by_cases e : x = y
    · subst e
      simp
    · have e' : ¬ y = x := fun z => e z.symm
      simp [e, e']
theorem flat_ints (ns : List Int) : (ns.map V.int).all flatV = true := by
  rw [List.all_eq_true]
  intro x hx
  obtain ⟨i, _, rfl⟩ := List.mem_map.mp hx
  rfl
/-- a new list of xs, all else kept -/
def newL (H : Hp) (Q : VK) (xs : List V) : Prop := ∀ l H', H l = none → Same H H' → H' l = some (.lst xs) → Q (.ref l) H'
theorem Same.refl (H : Hp) : Same H H := fun _ _ e => e
theorem Same.trans' {H H1 H2 : Hp} (x : Same H H1) (y : Same H1 H2) : Same H H2 := fun b o e => y b o (x b o e)
theorem same_upd2 {H H1 : Hp} {l : Addr} {o : HO} (x : Same H H1) (h : H l = none) : Same H (upd H1 l o) := fun b o' e => by
  rw [upd_ne (ne_of_none e h)]
  exact x b o' e
theorem free_of {H H1 : Hp} {l : Addr} (x : Same H H1) (h : H1 l = none) : H l = none := by
  cases e : H l with
  | none => rfl
  | some o =>
    rw [x l o e] at h
    cases h
theorem sqT_len {K : PySem.W.Frag} {H : Hp} {a : Addr} {ds : List Int} : (ds.map V.int).length = ds.length := List.length_map ..
theorem line7 : (7 : Nat) < sizeLine := by decide
section
variable {P : Program} {w : World} {K : PySem.W.Frag} {mg : Str → Option Value} {base : Heap}
def spChain (K : PySem.W.Frag) : Sp := fun vs H Q _ => ∃ (a : Addr) (ds : List Int) (p : Int), vs = [.ref a, .int p] ∧ SqT K H a (ds.map V.int) ∧ K06.Deps ds ∧ K06.Per ds p ∧ newL H Q ((K06.chain ds p).map V.int)
theorem at_nxt {ds : List Int} {h : Int} (hp : K06.Per ds h) : atI (ds.map V.int) h = some (.int (K06.nxt ds h)) := by
  have e : ((h.toNat : Nat) : Int) = h := Int.toNat_of_nonneg hp.1
  have q := K06.nxt_get hp
  rw [← e]
  refine atI_nat ?_
  rw [List.getElem?_map, q, e]
  rfl
theorem ok_chain {f : Addr} {fd : FuncData} {k : Nat} (F : Fun K "chain_of" "chain_of" sChain f fd) : FnOk P w K mg base CX0 (k + 1) f fd ["deputies", "person"] (spChain K) := by
  refine F.ok scChain (fun vs H Q E h => ?_) (fun cdv A outer s H vs Q E hr h => ?_)
  · obtain ⟨a, ds, p, rfl, _⟩ := h
    rfl
  · obtain ⟨a, ds, p, rfl, hS, D, hp, q⟩ := h
    refine ⟨_, pss_cons (ps_par (i := 2) (j := 3) rfl scChain.nd rfl rfl (by decide) rfl rfl (pa_cons (pe_lst pa_nil) (pa_cons (pv 1) pa_nil)) (by rfl)) (pss_cons (ps_while PassesOwn.never
      (PW.pt (pw_and (pt_cmpR op_ne (pv 3) (pe_un un_neg pe_int) (nomark _)) (pw_and1 (pt_cmpR op_notIn_seq (pv 3) (pv 2) (by with_unfolding_all rfl)))))
      (pss_cons (ps_expr (pe_bm PySem.F.plainAttrs_list PySem.F.slot_list_append PySem.F.type_list_append mt_append (pv 2) (pa_cons (pv 3) pa_nil)))
        (pss_one (ps_set (i := 3) scChain.nd rfl (Or.inl rfl) (pe_ix ix_tup (pv 0) (pv 3) (fun _ _ => rfl)))))) (pss_one (ps_ret (pv 2)))), ?_⟩
    refine ⟨by decide, fun l hl => ?_⟩
    refine ⟨.int p, rfl, _, _, rfl, ?_⟩
    refine ⟨fun m σ H' => ∃ (seen : List Int) (here : Int), σ = [some (.ref a), some (.int p), some (.ref l), some (.int here)] ∧ m = ds.length + 1 - seen.length ∧ K06.CInv ds p seen here ∧ H' l = some (.lst (seen.map V.int)) ∧ Same H H',
      ⟨ds.length + 1, [], p, rfl, rfl, .start hp, upd_same .., same_upd hl⟩, ?_⟩
    rintro m σ H' ⟨seen, here, rfl, rfl, c, e, sm⟩
    refine ⟨_, rfl, 1, rfl, rfl, _, rfl, ?_⟩
    by_cases h1 : here = -1
    · subst h1
      refine iteF ?_
      have := c.stop (.inl rfl)
      rw [this] at e
      exact iteF ⟨_, rfl, q l H' hl sm e⟩
    · have e1 : (!decide (V.int here = V.int (-1))) = true := by
        rw [decide_eq_false (fun z => h1 (V.int.inj z))]
        rfl
      rw [show V.int (-1) = V.int (-1 : Int) from rfl] at e1
      refine ite2 (fun _ => ?_) (fun z => absurd e1 z)
      refine ⟨_, rfl, _, rfl, l, _, rfl, .inl (SqL.of e), rfl, flat_ints _, _, rfl, ?_⟩
      rw [inV_ints]
      by_cases h2 : here ∈ seen
      · rw [decide_eq_true h2]
        have := c.stop (.inr h2)
        rw [this] at e
        exact iteF ⟨_, rfl, q l H' hl sm e⟩
      · rw [decide_eq_false h2]
        refine iteT ⟨fun σ' H'' => ∃ m', m' < ds.length + 1 - seen.length ∧ ∃ (seen : List Int) (here : Int), σ' = [some (.ref a), some (.int p), some (.ref l), some (.int here)] ∧ m' = ds.length + 1 - seen.length ∧ K06.CInv ds p seen here ∧ H'' l = some (.lst (seen.map V.int)) ∧ Same H H'', fun σ' H'' z => z, ?_⟩
        have hl7 : (seen.map V.int).length < sizeLine := by
          rw [List.length_map]
          have := c.len
          have := D.hi
          have := line7
          omega
        have st := c.step D h1 h2
        refine ⟨_, rfl, .inl ⟨rfl, _, SqL.of e⟩, _, rfl, l, _, _, rfl, rfl, e, hl7, ?_⟩
        have sm' : Same H (upd H' l (.lst (seen.map V.int ++ [.int here]))) := same_upd2 sm hl
        refine ⟨_, rfl, _, rfl, a, _, here, _, rfl, rfl, Same.tup sm' hS, at_nxt (c.isPer h1), ?_⟩
        refine ⟨_, ?_, seen ++ [here], _, rfl, rfl, st, ?_, sm'⟩
        · have := st.len
          rw [List.length_append] at this ⊢
          simp only [List.length_cons, List.length_nil] at this ⊢
          omega
        · rw [upd_same, List.map_append]
          rfl

/-! ### holder_of -/
def spHolder (K : PySem.W.Frag) : Sp := fun vs H Q _ => ∃ (a b : Addr) (ds g : List Int) (p : Int), vs = [.ref a, .ref b, .int p] ∧ SqT K H a (ds.map V.int) ∧ SqT K H b (g.map V.int) ∧ K06.Deps ds ∧ K06.Per ds p ∧ ∀ H', Same H H' → Q (.int (K06.holder ds g p)) H'
theorem firstOut_skip (g : List Int) : ∀ (pre post : List Int), (∀ x ∈ pre, x ∈ g) → K06.firstOut g (pre ++ post) = K06.firstOut g post
  | [], _, _ => rfl
  | x :: r, post, h => by
    show (if x ∈ g then K06.firstOut g (r ++ post) else x) = _
    rw [if_pos (h x (List.mem_cons_self ..))]
    exact firstOut_skip g r post fun y hy => h y (List.mem_cons_of_mem _ hy)
theorem ok_holder {f : Addr} {fd : FuncData} (F : Fun K "holder_of" "holder_of" sHolder f fd) (CC : Cal P w K mg base "chain_of" 1 ["deputies", "person"] (spChain K)) : FnOk P w K mg base CX0 2 f fd ["deputies", "gone", "person"] (spHolder K) := by
  refine F.ok scHolder (fun vs H Q E h => ?_) (fun cdv A outer s H vs Q E hr h => ?_)
  · obtain ⟨a, b, ds, g, p, rfl, _⟩ := h
    rfl
  · obtain ⟨a, b, ds, g, p, rfl, hA, hB, D, hp, q⟩ := h
    refine ⟨_, pss_cons (ps_for PassesOwn.never rfl (pi_list (pe_cal CC hr (by rfl) (pa_cons (pv 0) (pa_cons (pv 2) pa_nil)))) (pg_name (i := 3) scHolder.nd rfl (Or.inl rfl))
      (pss_one (ps_if (pt_cmpR op_notIn_seq (pv 3) (pv 1) (by with_unfolding_all rfl)) (pss_one (ps_ret (pv 3))) pss_nil))) (pss_one (ps_ret (pe_un un_neg pe_int))), ?_⟩
    refine ⟨_, rfl, _, rfl, a, ds, p, rfl, hA, D, hp, fun l H1 hl sm e => ?_⟩
    refine ⟨l, rfl, ⟨_, SqL.of e⟩, for_list (K := K) (xs := (K06.chain ds p).map V.int) (fun i σ H' => (∃ x, σ = [some (.ref a), some (.ref b), some (.int p), x]) ∧ H' = H1 ∧ ∀ x ∈ (K06.chain ds p).take i, x ∈ g) ⟨⟨_, rfl⟩, rfl, fun x hx => by simp at hx⟩ (fun i σ H' _ h => by
      obtain ⟨_, rfl, _⟩ := h
      exact SqL.of e) (fun i x σ H' hx h => ?_) (fun σ H' h => ?_)⟩
    · obtain ⟨⟨y, rfl⟩, rfl, hall⟩ := h
      rw [List.getElem?_map] at hx
      cases hc : (K06.chain ds p)[i]? with
      | none => rw [hc] at hx; cases hx
      | some c =>
        rw [hc] at hx
        cases hx
        refine ⟨_, rfl, _, rfl, b, _, rfl, .inr (Same.tup sm hB), rfl, flat_ints _, _, rfl, ?_⟩
        rw [inV_ints]
        by_cases h2 : c ∈ g
        · rw [decide_eq_true h2]
          refine iteF ⟨⟨_, rfl⟩, rfl, fun x hx => ?_⟩
          rw [List.take_add_one, hc] at hx
          rcases List.mem_append.mp hx with hx | hx
          · exact hall x hx
          · have : x = c := by simpa using hx
            rw [this]
            exact h2
        · rw [decide_eq_false h2]
          refine iteT ⟨_, rfl, ?_⟩
          have e2 : K06.holder ds g p = c := by
            have hi := (List.getElem?_eq_some_iff.mp hc).1
            show K06.firstOut g (K06.chain ds p) = c
            have sp : K06.chain ds p = (K06.chain ds p).take i ++ c :: (K06.chain ds p).drop (i + 1) := by
              have z : (K06.chain ds p).drop i = c :: (K06.chain ds p).drop (i + 1) := by
                rw [← (List.getElem?_eq_some_iff.mp hc).2]
                exact List.drop_eq_getElem_cons hi
              rw [← z, List.take_append_drop]
            rw [sp, firstOut_skip g _ _ hall]
            show (if c ∈ g then _ else c) = c
            rw [if_neg h2]
          rw [← e2]
          exact q H' sm
    · obtain ⟨⟨y, rfl⟩, rfl, hall⟩ := h
      rw [List.length_map, List.take_length] at hall
      have e2 : K06.holder ds g p = -1 := by
        show K06.firstOut g (K06.chain ds p) = -1
        have := firstOut_skip g (K06.chain ds p) [] hall
        rw [List.append_nil] at this
        rw [this]
        rfl
      have qq := q H' sm
      rw [e2] at qq
      exact ⟨1, rfl, qq⟩

/-! ### all_holders, all_loads -/
def spHolders (K : PySem.W.Frag) : Sp := fun vs H Q _ => ∃ (a b : Addr) (ds g : List Int), vs = [.ref a, .ref b] ∧ SqT K H a (ds.map V.int) ∧ SqT K H b (g.map V.int) ∧ K06.Deps ds ∧ newL H Q ((K06.holders ds g).map V.int)
theorem range_take {α : Type} {f : Nat → α} {n i : Nat} (h : i ≤ n) : ((List.range n).map f).take i = (List.range i).map f := by
  rw [← List.map_take, List.take_range, Nat.min_eq_left h]
theorem range_next {α : Type} (f : Nat → α) (i : Nat) : (List.range (i + 1)).map f = (List.range i).map f ++ [f i] := by
  rw [List.range_succ, List.map_append]
  rfl
theorem len62 {n : Nat} (h : n ≤ 1000) : -(2 ^ 62) ≤ (n : Int) ∧ (n : Int) < 2 ^ 62 := by
  have e : (2 : Int) ^ 62 = 4611686018427387904 := by decide
  rw [e]
  omega
theorem rng_bl (ds : List Int) (D : K06.Deps ds) : -(2 ^ 62) ≤ ((ds.map V.int).length : Int) ∧ ((ds.map V.int).length : Int) < 2 ^ 62 := by
  rw [List.length_map]
  exact len62 (by have := D.hi; omega)
theorem line1000 {n : Nat} (h : n ≤ 1000) : n < sizeLine := by
  have : (1000 : Nat) < sizeLine := by decide
  omega
theorem ok_holders {f : Addr} {fd : FuncData} (F : Fun K "all_holders" "all_holders" sHolders f fd) (CH : Cal P w K mg base "holder_of" 2 ["deputies", "gone", "person"] (spHolder K)) (M : Names mg) : FnOk P w K mg base CX0 3 f fd ["deputies", "gone"] (spHolders K) := by
  refine F.ok scHolders (fun vs H Q E h => ?_) (fun cdv A outer s H vs Q E hr h => ?_)
  · obtain ⟨a, b, ds, g, rfl, _⟩ := h
    rfl
  · obtain ⟨a, b, ds, g, rfl, hA, hB, D, q⟩ := h
    refine ⟨_, pss_one (ps_ret (pe_lc (own := [("person", 2)]) (g := gName 2) (tt := tYes) rfl scHolders.nd (pi_range1 (by rfl) M.range (pa_cons (pe_callB call_len_seq (by rfl) M.len PySem.boot_len (pa_cons (pv 0) pa_nil)) pa_nil))
      (blkOk_by (N := ["deputies", "gone", "person"]) (sc := defScope sHolders) (by decide +kernel)) (fun _ _ _ _ _ => pg_name (i := 2) scHolders.nd rfl (Or.inl rfl)) (fun _ _ _ _ _ => pts_nil)
      (fun _ _ _ _ _ => pe_cal CH hr (by rfl) (pa_cons (pv 0) (pa_cons (pv 1) (pa_cons (pv 2) pa_nil)))))), ?_⟩
    have hr62 := rng_bl ds D
    have h5 := D.hi
    refine ⟨_, rfl, a, _, rfl, .inr hA, _, rfl, hr62.1, hr62.2, fun l hl => ?_⟩
    rw [List.length_map]
    refine lc_range (n := ((ds.length : Int)).toNat) (fun i H' => Same H H' ∧ H' l = some (.lst (((List.range i).map fun i => V.int (K06.holder ds g (i : Nat)))))) ⟨same_upd hl, upd_same ..⟩ (fun i H' hi h => ?_) (fun H' h => ?_)
    · obtain ⟨sm, e⟩ := h
      have hi' : i < ds.length := by omega
      refine ⟨rfl, _, rfl, _, rfl, _, rfl, a, b, ds, g, _, rfl, Same.tup sm hA, Same.tup sm hB, D, ⟨by omega, by omega⟩, fun H2 sm2 => ?_⟩
      refine ⟨_, sm2 _ _ e, line1000 (by rw [List.length_map, List.length_range]; omega), same_upd2 (Same.trans' sm sm2) hl, ?_⟩
      rw [upd_same, range_next, show (0 : Int) + (i : Nat) = (i : Nat) by omega]
    · obtain ⟨sm, e⟩ := h
      refine q l H' hl sm ?_
      rw [e, show ((ds.length : Int)).toNat = ds.length by omega]
      show _ = some (HO.lst (((List.range ds.length).map fun i => K06.holder ds g (i : Nat)).map V.int))
      rw [List.map_map]
      rfl
def spLoads (K : PySem.W.Frag) : Sp := fun vs H Q _ => ∃ (a b : Addr) (ds g : List Int), vs = [.ref a, .ref b] ∧ SqT K H a (ds.map V.int) ∧ SqT K H b (g.map V.int) ∧ K06.Deps ds ∧ ∀ z : Int, newL H Q ((K06.counts ds g ++ [z]).map V.int)
theorem ok_loads {f : Addr} {fd : FuncData} (F : Fun K "all_loads" "all_loads" sLoads f fd) (CH : Cal P w K mg base "all_holders" 3 ["deputies", "gone"] (spHolders K)) (M : Names mg) : FnOk P w K mg base CX0 4 f fd ["deputies", "gone"] (spLoads K) := by
  refine F.ok scLoads (fun vs H Q E h => ?_) (fun cdv A outer s H vs Q E hr h => ?_)
  · obtain ⟨a, b, ds, g, rfl, _⟩ := h
    rfl
  · obtain ⟨a, b, ds, g, rfl, hA, hB, D, q⟩ := h
    refine ⟨_, pss_cons (ps_set (i := 2) scLoads.nd rfl (Or.inr rfl) (pe_cal CH hr (by rfl) (pa_cons (pv 0) (pa_cons (pv 1) pa_nil)))) (pss_one (ps_ret (pe_op op_cat (pe_lc (own := [("person", 3)]) (g := gName 3) (tt := tYes) (te := tBM K "list" (rCntI K) (tVar 2) (tCons (tVar 3) tNil)) rfl scLoads.nd (pi_range1 (by rfl) M.range (pa_cons (pe_callB call_len_seq (by rfl) M.len PySem.boot_len (pa_cons (pv 0) pa_nil)) pa_nil))
      (blkOk_by (N := ["deputies", "gone", "found", "person"]) (sc := defScope sLoads) (by decide +kernel)) (fun _ _ _ _ _ => pg_name (i := 3) scLoads.nd rfl (Or.inl rfl)) (fun _ _ _ _ _ => pts_nil)
      (fun _ _ _ _ _ => pe_bm PySem.F.plainAttrs_list PySem.F.slot_list_count PySem.F.type_list_count mt_lcount (pv 2) (pa_cons (pv 3) pa_nil))) (pe_lst (pa_cons (pe_bm PySem.F.plainAttrs_list PySem.F.slot_list_count PySem.F.type_list_count mt_lcount (pv 2) (pa_cons (pe_un un_neg pe_int) pa_nil)) pa_nil))))), ?_⟩
    have hr62 := rng_bl ds D
    have h5 := D.hi
    refine ⟨_, rfl, _, rfl, a, b, ds, g, rfl, hA, hB, D, fun l0 H1 hl0 sm1 e1 => ?_⟩
    refine ⟨_, rfl, a, _, rfl, .inr (Same.tup sm1 hA), _, rfl, hr62.1, hr62.2, fun l hl => ?_⟩
    rw [List.length_map]
    refine lc_range (n := ((ds.length : Int)).toNat) (fun i H' => Same H1 H' ∧ H' l = some (.lst (((List.range i).map fun i => V.int ((K06.load ds g (i : Nat) : Nat) : Int))))) ⟨same_upd hl, upd_same ..⟩ (fun i H' hi h => ?_) (fun H' h => ?_)
    · obtain ⟨sm, e⟩ := h
      have hi' : i < ds.length := by omega
      refine ⟨rfl, _, rfl, .inl ⟨rfl, _, SqL.of (sm _ _ e1)⟩, _, rfl, l0, _, _, rfl, rfl, SqL.of (sm _ _ e1), ?_⟩
      refine ⟨_, e, line1000 (by rw [List.length_map, List.length_range]; omega), same_upd2 sm hl, ?_⟩
      rw [upd_same, range_next, show (0 : Int) + (i : Nat) = (i : Nat) by omega]
      rfl
    · obtain ⟨sm, e⟩ := h
      refine ⟨_, rfl, .inl ⟨rfl, _, SqL.of (sm _ _ e1)⟩, 1, rfl, l0, _, -1, rfl, rfl, SqL.of (sm _ _ e1), (show 1 ≤ sizeLine by decide), fun l2 hl2 => ?_⟩
      refine ⟨l, l2, _, _, rfl, rfl, (upd_ne (ne_of_none e hl2)).trans e, upd_same .., ?_, fun l3 hl3 => ?_⟩
      · rw [List.length_map, List.length_range]
        exact Nat.le_of_lt (line1000 (by simp only [List.length_cons, List.length_nil]; omega))
      · have sm3 : Same H (upd (upd H' l2 (.lst [V.int (((K06.holders ds g).count (-1) : Nat) : Int)])) l3 (.lst ((List.range ((ds.length : Int)).toNat).map (fun i => V.int ((K06.load ds g (i : Nat) : Nat) : Int)) ++ [V.int (((K06.holders ds g).count (-1) : Nat) : Int)]))) :=
          Same.trans' (Same.trans' sm1 sm) (Same.trans' (same_upd hl2) (same_upd hl3))
        refine q (((K06.holders ds g).count (-1) : Nat) : Int) l3 _ (free_of (Same.trans' (Same.trans' sm1 sm) (same_upd hl2)) hl3) sm3 ?_
        rw [upd_same, List.map_append, show ((ds.length : Int)).toNat = ds.length by omega]
        show _ = some (HO.lst ((((List.range ds.length).map fun i => ((K06.load ds g (i : Nat) : Nat) : Int)).map V.int) ++ _))
        rw [List.map_map]
        rfl
end
end K06P

set_option maxRecDepth 100000
set_option maxHeartbeats 4000000
/-! The law's own holder and holders. -/
namespace K06P
open PySem PySem.Spec PyProof.Rows L2 GxR
section
variable {P : Program} {w : World} {K : PySem.W.Frag} {mg : Str → Option Value} {base : Heap}
theorem ok_lholder {f : Addr} {fd : FuncData} {k : Nat} (F : Fun K "_law_holder" "_law_holder" sLHolder f fd) (M : Names mg) : FnOk P w K mg base CX0 (k + 1) f fd ["_law_deputies_here", "_law_gone", "_law_person"] (spHolder K) := by
  refine F.ok scLHolder (fun vs H Q E h => ?_) (fun cdv A outer s H vs Q E hr h => ?_)
  · obtain ⟨a, b, ds, g, p, rfl, _⟩ := h
    rfl
  · obtain ⟨a, b, ds, g, p, rfl, hA, hB, D, hp, q⟩ := h
    refine ⟨_, pss_cons (ps_par (i := 3) (j := 4) rfl scLHolder.nd rfl rfl (by decide) rfl rfl (pa_cons (pv 2) (pa_cons (pe_lst pa_nil) pa_nil)) (by rfl)) (pss_cons (ps_for PassesOwn.never rfl (pi_range1 (by rfl) M.range (pa_cons (pe_op op_add (pe_callB call_len_seq (by rfl) M.len PySem.boot_len (pa_cons (pv 0) pa_nil)) pe_int) pa_nil)) (pg_name (i := 5) scLHolder.nd rfl (Or.inl rfl))
      (pss_cons (ps_if (PW.pt (pw_or (pt_cmpR op_eq (pv 3) (pe_un un_neg pe_int) (nomark _)) (pw_or1 (pt_cmpR op_in_seq (pv 3) (pv 4) (by with_unfolding_all rfl))))) (pss_one (ps_ret (pe_un un_neg pe_int))) pss_nil)
      (pss_cons (ps_if (pt_cmpR op_notIn_seq (pv 3) (pv 1) (by with_unfolding_all rfl)) (pss_one (ps_ret (pv 3))) pss_nil)
      (pss_cons (ps_expr (pe_bm PySem.F.plainAttrs_list PySem.F.slot_list_append PySem.F.type_list_append mt_append (pv 4) (pa_cons (pv 3) pa_nil)))
        (pss_one (ps_set (i := 3) scLHolder.nd rfl (Or.inl rfl) (pe_ix ix_tup (pv 0) (pv 3) (fun _ _ => rfl)))))))) (pss_one (ps_ret (pe_un un_neg pe_int)))), ?_⟩
    have h5 := D.hi
    refine ⟨_, rfl, by decide, fun l hl => ⟨_, _, rfl, ?_⟩⟩
    have b62 := len62 (n := ds.length + 1) (by omega)
    refine ⟨_, rfl, a, _, rfl, .inr (Same.tup (same_upd hl) hA), ((ds.map V.int).length : Int), 1, rfl, rfl, _, rfl, ?_, ?_, ?_⟩
    · rw [List.length_map]
      have := b62.1
      omega
    · rw [List.length_map]
      have := b62.2
      omega
    rw [List.length_map]
    refine for_range (n := ((ds.length : Int) + 1).toNat) (fun i σ H' => ∃ (seen : List Int) (here : Int) (t : Option V), σ = [some (.ref a), some (.ref b), some (.int p), some (.int here), some (.ref l), t] ∧ H' l = some (.lst (seen.map V.int)) ∧ Same H H' ∧ (-1 ≤ here ∧ here < ds.length) ∧ seen.length = i ∧ K06.lh ds g (ds.length + 1 - i) seen here = K06.holder ds g p)
      ⟨[], p, _, rfl, upd_same .., same_upd hl, ⟨(by have := hp.1; omega), hp.2⟩, rfl, K06.lh_holder ds g p⟩ (fun i σ H' hi h => ?_) (fun σ H' h => ?_)
    · obtain ⟨seen, here, t, rfl, e, sm, hh, hlen, hv⟩ := h
      obtain ⟨k, hk⟩ : ∃ k, ds.length + 1 - i = k + 1 := ⟨ds.length - i, by omega⟩
      have hk2 : ds.length + 1 - (i + 1) = k := by omega
      rw [hk] at hv
      unfold K06.lh at hv
      refine ⟨_, rfl, 1, rfl, rfl, _, rfl, ?_⟩
      by_cases h1 : here = -1
      · subst h1
        rw [if_pos (.inl rfl)] at hv
        have qq := q H' sm
        rw [← hv] at qq
        exact iteT (iteT ⟨1, rfl, qq⟩)
      · have e1 : decide (V.int here = V.int (-1)) = false := decide_eq_false (fun z => h1 (V.int.inj z))
        refine ite2 (fun z => absurd (e1.symm.trans z) (by decide)) (fun _ => ?_)
        refine ⟨_, rfl, _, rfl, l, _, rfl, .inl (SqL.of e), rfl, flat_ints _, _, rfl, ?_⟩
        rw [inV_ints]
        by_cases h2 : here ∈ seen
        · rw [if_pos (.inr h2)] at hv
          have qq := q H' sm
          rw [← hv] at qq
          rw [decide_eq_true h2]
          exact iteT ⟨1, rfl, qq⟩
        · rw [decide_eq_false h2]
          rw [if_neg (by intro z; rcases z with z | z; exact h1 z; exact h2 z)] at hv
          refine iteF ⟨_, rfl, _, rfl, b, _, rfl, .inr (Same.tup sm hB), rfl, flat_ints _, _, rfl, ?_⟩
          rw [inV_ints]
          by_cases h3 : here ∈ g
          · rw [if_pos h3] at hv
            rw [decide_eq_true h3]
            have hl7 : (seen.map V.int).length < sizeLine := by
              rw [List.length_map]
              exact line1000 (by omega)
            refine iteF ⟨_, rfl, .inl ⟨rfl, _, SqL.of e⟩, _, rfl, l, _, _, rfl, rfl, e, hl7, ?_⟩
            have sm' : Same H (upd H' l (.lst (seen.map V.int ++ [.int here]))) := same_upd2 sm hl
            have hper : K06.Per ds here := ⟨by omega, hh.2⟩
            refine ⟨_, rfl, _, rfl, a, _, here, _, rfl, rfl, Same.tup sm' hA, at_nxt hper, ?_⟩
            refine ⟨seen ++ [here], _, _, rfl, ?_, sm', D.nxt hper, ?_, ?_⟩
            · rw [upd_same, List.map_append]
              rfl
            · rw [List.length_append, hlen]
              rfl
            · rw [hk2]
              exact hv
          · rw [if_neg h3] at hv
            rw [decide_eq_false h3]
            have qq := q H' sm
            rw [← hv] at qq
            exact iteT ⟨_, rfl, qq⟩
    · obtain ⟨seen, here, t, rfl, e, sm, hh, hlen, hv⟩ := h
      have e0 : ds.length + 1 - ((ds.length : Int) + 1).toNat = 0 := by omega
      rw [e0] at hv
      have qq := q H' sm
      rw [← hv] at qq
      exact ⟨1, rfl, qq⟩
theorem ok_lholders {f : Addr} {fd : FuncData} (F : Fun K "_law_holders" "_law_holders" sLHolders f fd) (CH : Cal P w K mg base "_law_holder" 1 ["_law_deputies_here", "_law_gone", "_law_person"] (spHolder K)) (M : Names mg) : FnOk P w K mg base CX0 2 f fd ["_law_deputies_here", "_law_gone"] (spHolders K) := by
  refine F.ok scLHolders (fun vs H Q E h => ?_) (fun cdv A outer s H vs Q E hr h => ?_)
  · obtain ⟨a, b, ds, g, rfl, _⟩ := h
    rfl
  · obtain ⟨a, b, ds, g, rfl, hA, hB, D, q⟩ := h
    refine ⟨_, pss_one (ps_ret (pe_lc (own := [("_law_k", 2)]) (g := gName 2) (tt := tYes) rfl scLHolders.nd (pi_range1 (by rfl) M.range (pa_cons (pe_callB call_len_seq (by rfl) M.len PySem.boot_len (pa_cons (pv 0) pa_nil)) pa_nil))
      (blkOk_by (N := ["_law_deputies_here", "_law_gone", "_law_k"]) (sc := defScope sLHolders) (by decide +kernel)) (fun _ _ _ _ _ => pg_name (i := 2) scLHolders.nd rfl (Or.inl rfl)) (fun _ _ _ _ _ => pts_nil)
      (fun _ _ _ _ _ => pe_cal CH hr (by rfl) (pa_cons (pv 0) (pa_cons (pv 1) (pa_cons (pv 2) pa_nil)))))), ?_⟩
    have hr62 := rng_bl ds D
    have h5 := D.hi
    refine ⟨_, rfl, a, _, rfl, .inr hA, _, rfl, hr62.1, hr62.2, fun l hl => ?_⟩
    rw [List.length_map]
    refine lc_range (n := ((ds.length : Int)).toNat) (fun i H' => Same H H' ∧ H' l = some (.lst (((List.range i).map fun i => V.int (K06.holder ds g (i : Nat)))))) ⟨same_upd hl, upd_same ..⟩ (fun i H' hi h => ?_) (fun H' h => ?_)
    · obtain ⟨sm, e⟩ := h
      have hi' : i < ds.length := by omega
      refine ⟨rfl, _, rfl, _, rfl, _, rfl, a, b, ds, g, _, rfl, Same.tup sm hA, Same.tup sm hB, D, ⟨by omega, by omega⟩, fun H2 sm2 => ?_⟩
      refine ⟨_, sm2 _ _ e, line1000 (by rw [List.length_map, List.length_range]; omega), same_upd2 (Same.trans' sm sm2) hl, ?_⟩
      rw [upd_same, range_next, show (0 : Int) + (i : Nat) = (i : Nat) by omega]
    · obtain ⟨sm, e⟩ := h
      refine q l H' hl sm ?_
      rw [e, show ((ds.length : Int)).toNat = ds.length by omega]
      show _ = some (HO.lst (((List.range ds.length).map fun i => K06.holder ds g (i : Nat)).map V.int))
      rw [List.map_map]
      rfl
end
end K06P

set_option maxRecDepth 100000
set_option maxHeartbeats 4000000
/-! Lots as data, and lists of lots in a heap. -/
namespace K06P
open PySem PySem.Spec PyProof.Rows L2 GxR PySem.W
/-! ### the data -/
abbrev dG (g : List Int) : PyData := .tuple (g.map PyData.int)
abbrev dP (m : Int) (g : List Int) : PyData := .tuple [.int m, dG g]
theorem canL_ints : ∀ g : List Int, PyData.canLayAll0 (g.map PyData.int) = true
  | [] => by simp only [List.map_nil, PyData.canLayAll0]
  | x :: r => by
    rw [List.map_cons, PyData.canLayAll0, canL_ints r]
    simp [PyData.canLay0]
theorem canL_dG (g : List Int) : (dG g).canLay0 = true := by
  simp only [PyData.canLay0]
  exact canL_ints g
theorem dep_dG (g : List Int) : (dG g).depth = 1 := by
  simp only [PyData.depth]
  rw [depth_ints]
theorem shaped_dG (g : List Int) : SeqAt.shaped (dG g) = true := by
  unfold SeqAt.shaped
  rw [canL_dG, dep_dG]
  rfl
theorem shaped_dP (m : Int) (g : List Int) : SeqAt.shaped (dP m g) = true := by
  unfold SeqAt.shaped
  have h1 := canL_dG g
  have h2 := dep_dG g
  simp only [PyData.canLay0, PyData.canLayAll0, PyData.depth, PyData.depthAll] at h1 h2 ⊢
  rw [h1]
  simp [h2]
theorem depth_all (n : Nat) : ∀ (ds : List PyData), (∀ d ∈ ds, d.depth ≤ n) → PyData.depthAll ds ≤ n
  | [], _ => by simp only [PyData.depthAll]; exact Nat.zero_le _
  | x :: r, h => by
    simp only [PyData.depthAll]
    exact Nat.max_le.mpr ⟨h x (List.mem_cons_self ..), depth_all n r fun d hd => h d (List.mem_cons_of_mem _ hd)⟩
theorem canL_all : ∀ (ds : List PyData), (∀ d ∈ ds, d.canLay0 = true) → PyData.canLayAll0 ds = true
  | [], _ => by simp only [PyData.canLayAll0]
  | x :: r, h => by
    rw [PyData.canLayAll0, h x (List.mem_cons_self ..), canL_all r fun d hd => h d (List.mem_cons_of_mem _ hd)]
    rfl
theorem shaped_list {ds : List PyData} (h : ∀ d ∈ ds, d.canLay0 = true ∧ d.depth ≤ 60) : SeqAt.shaped (.list ds) = true := by
  have h1 := canL_all ds fun d hd => (h d hd).1
  have h2 := depth_all 60 ds fun d hd => (h d hd).2
  have h3 : (PyData.list ds).canLay0 = true := by
    simp only [PyData.canLay0]
    exact h1
  have h4 : (PyData.list ds).depth ≤ 64 := by
    simp only [PyData.depth]
    omega
  unfold SeqAt.shaped
  rw [h3, decide_eq_true h4]
  rfl
theorem shaped_dL (L : List (List Int)) : SeqAt.shaped (.list (L.map dG)) = true := shaped_list fun d hd => by
  obtain ⟨g, _, rfl⟩ := List.mem_map.mp hd
  exact ⟨canL_dG g, by rw [dep_dG]; omega⟩
theorem eqv_ii (a b : Int) : PyData.eqv (.int a) (.int b) = decide (a = b) := by
  simp only [PyData.eqv]
  by_cases e : a = b
  · subst e
    simp
  · simp [e]
theorem eqv_ints : ∀ xs ys : List Int, PyData.eqvAll (xs.map .int) (ys.map .int) = decide (xs = ys)
  | [], [] => by simp only [List.map_nil, PyData.eqvAll, decide_true]
  | [], _ :: _ => by simp [PyData.eqvAll]
  | _ :: _, [] => by simp [PyData.eqvAll]
  | x :: xs, y :: ys => by
    rw [List.map_cons, List.map_cons, PyData.eqvAll, eqv_ii, eqv_ints xs ys, ← Bool.decide_and]
    exact decide_eq_decide.mpr (by rw [List.cons.injEq])
theorem eqv_dG (g h : List Int) : PyData.eqv (dG g) (dG h) = decide (g = h) := by
  simp only [PyData.eqv]
  exact eqv_ints g h
theorem any_dG (L : List (List Int)) (g : List Int) : ((L.map dG).any fun z => PyData.eqv z (dG g)) = decide (g ∈ L) := by
  induction L with
  | nil => rfl
  | cons h r ih =>
    rw [List.map_cons, List.any_cons, ih, eqv_dG]
    by_cases e : g = h
    · subst e
      simp
    · have e' : ¬ h = g := fun z => e z.symm
      simp [e, e']
theorem alike_dG (g h : List Int) : PySem.W.alike (dG g) (dG h) = true := by
  simp only [PySem.W.alike]
  exact alike_ints g h
theorem alike_dP (m n : Int) (g h : List Int) : PySem.W.alike (dP m g) (dP n h) = true := by
  have := alike_dG g h
  simp only [PySem.W.alike, PySem.W.alikeAll] at this ⊢
  rw [this]
  rfl
theorem lt_dG (g h : List Int) : dataLt (dG g) (dG h) = decide (g < h) := (dataLt_tuple _ _).trans (dataLt_ints g h)
theorem lt_dP (m n : Int) (g h : List Int) : dataLt (dP m g) (dP n h) = true ↔ K06.pairLt (m, g) (n, h) := by
  rw [dataLt_pair (by simp only [PySem.W.alike]) (alike_dG g h), eqv_dG, lt_dG, dataLt_int, eqv_ii]
  unfold K06.pairLt
  by_cases e : m = n
  · subst e
    by_cases e2 : g = h
    · subst e2
      have irr : ¬ g < g := List.lt_irrefl g
      simp [irr]
    · simp [e2]
  · simp [e]
theorem alikeAll_dG (L : List (List Int)) : AllAlike (L.map dG) := fun d hd d' hd' => by
  obtain ⟨g, _, rfl⟩ := List.mem_map.mp hd
  obtain ⟨h, _, rfl⟩ := List.mem_map.mp hd'
  exact alike_dG g h

/-! ### lists of lots -/
def LV (K : PySem.W.Frag) (H : Hp) (v : V) (g : List Int) : Prop := ∃ a : Addr, v = .ref a ∧ SqT K H a (g.map V.int)
abbrev LotsV (K : PySem.W.Frag) (H : Hp) : List V → List (List Int) → Prop := Paired (LV K H)
section
variable {K : PySem.W.Frag} {H H' : Hp} {vs ws : List V} {L M : List (List Int)} {P1 P2 : Addr}
theorem lotsV_same (s : Same H H') (h : LotsV K H vs L) : LotsV K H' vs L := L2.Paired.mapP h fun v g ⟨a, e, q⟩ => ⟨a, e, Same.tup s q⟩
theorem lotsV_gr (s : Gr P1 P2 H H') (t : Tb P1 P2 H) (h : LotsV K H vs L) : LotsV K H' vs L := L2.Paired.mapP h fun v g ⟨a, e, q⟩ => ⟨a, e, s.tup t q⟩
theorem lotsV_app : ∀ {vs : List V} {L : List (List Int)}, LotsV K H vs L → LotsV K H ws M → LotsV K H (vs ++ ws) (L ++ M)
  | _, _, .nil, h => h
  | _, _, .cons r t, h => .cons r (lotsV_app t h)
theorem paired_at {α β : Type} {R : α → β → Prop} : ∀ {l : List α} {m : List β} {i : Nat} {v : α}, Paired R l m → l[i]? = some v → ∃ g, m[i]? = some g ∧ R v g
  | _, _, _, _, .nil, h => by simp at h
  | _, _, 0, _, .cons r _, h => by
    have := Option.some.inj (show some _ = some _ from h)
    subst this
    exact ⟨_, rfl, r⟩
  | _, _, i + 1, v, .cons _ t, h => paired_at (i := i) t (by simpa using h)
theorem paired_mem {α β : Type} {R : α → β → Prop} : ∀ {l : List α} {m : List β} {v : α}, Paired R l m → v ∈ l → ∃ g ∈ m, R v g
  | _, _, _, .nil, h => by cases h
  | _, _, v, .cons r t, h => by
    rcases List.mem_cons.mp h with e | h
    · subst e
      exact ⟨_, List.mem_cons_self .., r⟩
    · obtain ⟨g, h1, h2⟩ := paired_mem t h
      exact ⟨g, List.mem_cons_of_mem _ h1, h2⟩
theorem paired_perm {α β : Type} {R : α → β → Prop} {l l' : List α} (h : l'.Perm l) : ∀ {m : List β}, Paired R l m → ∃ m', m'.Perm m ∧ Paired R l' m' := by
  induction h with
  | nil => intro m r; exact ⟨m, List.Perm.refl _, r⟩
  | cons x _ ih =>
    intro m r
    cases r with
    | cons r t =>
      obtain ⟨m', p, v⟩ := ih t
      exact ⟨_ :: m', p.cons _, .cons r v⟩
  | swap x y l =>
    intro m r
    cases r with
    | cons r t =>
      cases t with
      | cons r' t => exact ⟨_ :: _ :: _, List.Perm.swap .., .cons r' (.cons r t)⟩
  | trans _ _ ih1 ih2 =>
    intro m r
    obtain ⟨x1, p1, v1⟩ := ih2 r
    obtain ⟨x2, p2, v2⟩ := ih1 v1
    exact ⟨x2, p2.trans p1, v2⟩
theorem dp_ints : ∀ (g : List Int), DpAll K H (g.map V.int) (g.map PyData.int)
  | [] => .nil
  | x :: r => .cons (.int x) (dp_ints r)
theorem dp_lot {a : Addr} {g : List Int} (h : SqT K H a (g.map V.int)) : Dp K H (.ref a) (dG g) := .tup h (dp_ints g)
theorem dp_lots : ∀ {vs : List V} {L : List (List Int)}, LotsV K H vs L → DpAll K H vs (L.map dG)
  | _, _, .nil => .nil
  | _, _, .cons ⟨a, e, q⟩ t => by
    rw [e]
    exact .cons (dp_lot q) (dp_lots t)
end
end K06P

set_option maxRecDepth 100000
set_option maxHeartbeats 4000000
/-! all_lots and the law's own. -/
namespace K06P
open PySem PySem.Spec PyProof.Rows L2 GxR
section
variable {P : Program} {w : World} {K : PySem.W.Frag} {mg : Str → Option Value} {base : Heap}
def newLots (K : PySem.W.Frag) (H : Hp) (Q : VK) (L0 : List (List Int)) : Prop := ∀ (l : Addr) (H' : Hp) (vs : List V) (L : List (List Int)), H l = none → Same H H' → H' l = some (.lst vs) → LotsV K H' vs L → L.Perm L0 → Q (.ref l) H'
def spLots (K : PySem.W.Frag) : Sp := fun vs H Q _ => ∃ n : Nat, vs = [.int (n : Int)] ∧ n ≤ 5 ∧ newLots K H Q (K06.lots n)
theorem hu65 {A : Around} {k : Nat} (hr : Room k A) : A.units + 65 < cLine := by
  have := hr.un
  omega
theorem hu64 {A : Around} {k : Nat} (hr : Room k A) : A.units + 64 < cLine := by
  have := hr.un
  omega
theorem lots_head : ∀ n, ∃ r, K06.lots n = [] :: r
  | 0 => ⟨[], rfl⟩
  | n + 1 => by
    obtain ⟨r, e⟩ := lots_head n
    unfold K06.lots
    rw [e]
    exact ⟨_, rfl⟩
theorem lots_small {n : Nat} (h : n ≤ 5) : (K06.lots n).length ≤ 32 := by
  rw [K06.lots_len]
  exact Nat.pow_le_pow_right (by omega) h
theorem lot_pairs {H : Hp} {vs : List V} {L : List (List Int)} (h : LotsV K H vs L) : vs.length = L.length := h.length
theorem take_next {α : Type} {l : List α} {i : Nat} {x : α} (h : l[i]? = some x) : l.take (i + 1) = l.take i ++ [x] := by
  rw [List.take_add_one, h]
  rfl
theorem tup_upd_lst {H : Hp} {D a : Addr} {acc acc2 : List V} {xs : List V} (h : SqT K H a xs) (e : H D = some (.lst acc)) : SqT K (upd H D (.lst acc2)) a xs := by
  rcases h with (h | ⟨o, h⟩) | h
  · exact .inl (.inl ((upd_ne (by intro z; rw [z, e] at h; cases h)).trans h))
  · exact .inl (.inr ⟨o, (upd_ne (by intro z; rw [z, e] at h; cases h)).trans h⟩)
  · exact .inr h
theorem lotsV_keepD {H : Hp} {D : Addr} {acc acc2 : List V} {vs : List V} {L : List (List Int)} (h : LotsV K H vs L) (e : H D = some (.lst acc)) : LotsV K (upd H D (.lst acc2)) vs L := L2.Paired.mapP h fun v g ⟨a, r, q⟩ => ⟨a, r, tup_upd_lst q e⟩
/-- the step of the lots, as the two lists in the heap -/
theorem ok_lots {f : Addr} {fd : FuncData} {k : Nat} (F : Fun K "all_lots" "all_lots" sLots f fd) (M : Names mg) : FnOk P w K mg base CX0 (k + 1) f fd ["size"] (spLots K) := by
  refine F.ok scLots (fun vs H Q E h => ?_) (fun cdv A outer s H vs Q E hr h => ?_)
  · obtain ⟨n, rfl, _⟩ := h
    rfl
  · obtain ⟨n, rfl, hn, q⟩ := h
    refine ⟨_, pss_cons (ps_set (i := 1) scLots.nd rfl (Or.inl rfl) (pe_lst (pa_cons (pe_tup pa_nil) pa_nil)))
      (pss_cons (ps_for PassesOwn.never rfl (pi_range1 (by rfl) M.range (pa_cons (pv 0) pa_nil)) (pg_name (i := 2) scLots.nd rfl (Or.inr rfl))
        (pss_one (ps_set (i := 1) scLots.nd rfl (Or.inl rfl) (pe_op op_cat (pv 1) (pe_lc (own := [("lot", 3)]) (g := gName 3) (tt := tYes) (te := tTup (StX.tStar K (tVar 3) (tCons (tVar 2) tNil))) rfl scLots.nd (pi_list (pv 1))
          (blkOk_by (N := ["size", "found", "person", "lot"]) (sc := defScope sLots) (by decide +kernel)) (fun _ _ _ _ _ => pg_name (i := 3) scLots.nd rfl (Or.inl rfl)) (fun _ _ _ _ _ => pts_nil)
          (fun _ _ _ _ _ => pe_tup (StX.pa_star (pv 3) (pa_cons (pv 2) pa_nil))))))))
      (pss_one (ps_ret (pe_callB (K06R.cr_sortE (hu64 hr)) (by rfl) M.sorted boot_sorted (pa_cons (pv 1) pa_nil))))), ?_⟩
    refine ⟨by decide, fun t ht => ⟨(show 1 ≤ sizeLine by decide), fun l hl => ?_⟩⟩
    have b62 := len62 (n := n) (by omega)
    refine ⟨_, rfl, (n : Int), rfl, b62.1, b62.2, ?_⟩
    have sm0 : Same H (upd (upd H t (.tup [])) l (.lst [.ref t])) := Same.trans' (same_upd ht) (same_upd hl)
    refine for_range (n := ((n : Int)).toNat) (fun i σ H' => ∃ (l : Addr) (vs : List V) (x y : Option V), σ = [some (.int n), some (.ref l), x, y] ∧ H' l = some (.lst vs) ∧ LotsV K H' vs (K06.lots i) ∧ Same H H')
      ⟨l, _, _, _, rfl, upd_same .., .cons ⟨t, rfl, SqT.of ((upd_ne (ne_of_none (upd_same ..) hl)).trans (upd_same ..))⟩ .nil, sm0⟩ (fun i σ H' hi h => ?_) (fun σ H' h => ?_)
    · obtain ⟨l, vs, x, y, rfl, e, lv, sm⟩ := h
      have hl32 := lots_small (n := i) (by omega)
      have hlen := lot_pairs lv
      refine ⟨_, rfl, _, rfl, l, rfl, ⟨_, SqL.of e⟩, fun D hD => ?_⟩
      refine lc_list (K := K) (xs := vs) (fun j H2 => Same H' H2 ∧ ∃ acc, H2 D = some (.lst acc) ∧ LotsV K H2 acc (((K06.lots i).take j).map (· ++ [(i : Int)]))) ⟨same_upd hD, [], upd_same .., .nil⟩ (fun j H2 _ h => SqL.of (h.1 _ _ e)) (fun j v H2 hv h => ?_) (fun H2 h => ?_)
      · obtain ⟨sm2, acc, eD, lv2⟩ := h
        obtain ⟨g, hg, a, rfl, hS⟩ := paired_at lv hv
        have hlen2 := lot_pairs lv2
        rw [List.length_map, List.length_take] at hlen2
        have hS2 := Same.tup sm2 hS
        have hgl := K06.lot_len (List.mem_of_getElem? hg)
        refine ⟨rfl, _, rfl, a, _, rfl, .inl hS2, _, rfl, ?_, fun p hp => ?_⟩
        · rw [List.length_append, List.length_map]
          exact Nat.le_of_lt (line1000 (by simp only [List.length_cons, List.length_nil]; omega))
        · have hne : D ≠ p := ne_of_none eD hp
          have hpD : p ≠ D := fun z => hne z.symm
          refine ⟨acc, (upd_ne hne).trans eD, line1000 (by omega), ?_, _, upd_same .., ?_⟩
          · exact same_upd2 (Same.trans' sm2 (same_upd hp)) hD
          · rw [take_next hg, List.map_append]
            have smp : Same H2 (upd H2 p (.tup (g.map V.int ++ [.int (0 + (i : Nat))]))) := same_upd hp
            have lv3 : LotsV K (upd (upd H2 p (.tup (g.map V.int ++ [.int (0 + (i : Nat))]))) D (.lst (acc ++ [.ref p]))) acc (((K06.lots i).take j).map (· ++ [(i : Int)])) := by
              refine lotsV_keepD (lotsV_same smp lv2) ((upd_ne hne).trans eD)
            refine lotsV_app lv3 (.cons ⟨p, rfl, SqT.of ((upd_ne hpD).trans ?_)⟩ .nil)
            rw [upd_same, List.map_append, show (0 : Int) + (i : Nat) = (i : Nat) by omega]
            rfl
      · obtain ⟨sm2, acc, eD, lv2⟩ := h
        rw [hlen, List.take_length] at lv2
        have hlen2 := lot_pairs lv2
        rw [List.length_map] at hlen2
        refine ⟨l, D, vs, acc, rfl, rfl, sm2 _ _ e, eD, Nat.le_of_lt (line1000 (by omega)), fun p hp => ?_⟩
        refine ⟨p, vs ++ acc, _, _, rfl, upd_same .., ?_, Same.trans' (Same.trans' sm sm2) (same_upd hp)⟩
        show LotsV K _ _ (K06.lots i ++ (K06.lots i).map (· ++ [(i : Int)]))
        exact lotsV_same (same_upd hp) (lotsV_app (lotsV_same sm2 lv) lv2)
    · obtain ⟨l, vs, x, y, rfl, e, lv, sm⟩ := h
      rw [show ((n : Int)).toNat = n by omega] at lv
      obtain ⟨r, er⟩ := lots_head n
      have dp := dp_lots lv
      rw [er, List.map_cons] at dp
      refine ⟨_, rfl, l, vs, r.map dG, rfl, SqL.of e, dp, fun d hd => ?_, ?_, ?_, fun ys p hp hpn => ?_⟩
      · obtain ⟨g, _, rfl⟩ := List.mem_map.mp hd
        exact ⟨_, rfl⟩
      · have := alikeAll_dG (K06.lots n)
        rw [er, List.map_cons] at this
        exact this
      · intro d hd
        rw [show PyData.tuple [] :: r.map dG = ([] :: r).map dG from rfl] at hd
        obtain ⟨g, _, rfl⟩ := List.mem_map.mp hd
        rw [dep_dG]
        omega
      · obtain ⟨L, hL, lv2⟩ := paired_perm hp lv
        exact q p _ ys L (free_of sm hpn) (Same.trans' sm (same_upd hpn)) (upd_same ..) (lotsV_same (same_upd hpn) lv2) hL
end
end K06P

set_option maxRecDepth 100000
set_option maxHeartbeats 4000000
/-! The law's lots. -/
namespace K06P
open PySem PySem.Spec PyProof.Rows L2 GxR
section
variable {P : Program} {w : World} {K : PySem.W.Frag} {mg : Str → Option Value} {base : Heap}
theorem ok_llots {f : Addr} {fd : FuncData} {k : Nat} (F : Fun K "_law_lots" "_law_lots" sLLots f fd) (M : Names mg) : FnOk P w K mg base CX0 (k + 1) f fd ["_law_size"] (spLots K) := by
  refine F.ok scLLots (fun vs H Q E h => ?_) (fun cdv A outer s H vs Q E hr h => ?_)
  · obtain ⟨n, rfl, _⟩ := h
    rfl
  · obtain ⟨n, rfl, hn, q⟩ := h
    refine ⟨_, pss_cons (ps_set (i := 1) scLLots.nd rfl (Or.inl rfl) (pe_lst (pa_cons (pe_tup pa_nil) pa_nil)))
      (pss_cons (ps_for PassesOwn.never rfl (pi_range1 (by rfl) M.range (pa_cons (pv 0) pa_nil)) (pg_name (i := 2) scLLots.nd rfl (Or.inr rfl))
        (pss_one (ps_set (i := 1) scLLots.nd rfl (Or.inl rfl) (pe_op op_cat (pv 1) (pe_lc (own := [("_law_lot_here", 3)]) (g := gName 3) (tt := tYes) (te := tOp (rCatA K) (tVar 3) (tTup (tCons (tVar 2) tNil))) rfl scLLots.nd (pi_list (pv 1))
          (blkOk_by (N := ["_law_size", "_law_found", "_law_person", "_law_lot_here"]) (sc := defScope sLLots) (by decide +kernel)) (fun _ _ _ _ _ => pg_name (i := 3) scLLots.nd rfl (Or.inl rfl)) (fun _ _ _ _ _ => pts_nil)
          (fun _ _ _ _ _ => pe_op op_catA (pv 3) (pe_tup (pa_cons (pv 2) pa_nil))))))))
      (pss_one (ps_ret (pe_callB (K06R.cr_sortE (hu64 hr)) (by rfl) M.sorted boot_sorted (pa_cons (pv 1) pa_nil))))), ?_⟩
    refine ⟨by decide, fun t ht => ⟨(show 1 ≤ sizeLine by decide), fun l hl => ?_⟩⟩
    have b62 := len62 (n := n) (by omega)
    refine ⟨_, rfl, (n : Int), rfl, b62.1, b62.2, ?_⟩
    have sm0 : Same H (upd (upd H t (.tup [])) l (.lst [.ref t])) := Same.trans' (same_upd ht) (same_upd hl)
    refine for_range (n := ((n : Int)).toNat) (fun i σ H' => ∃ (l : Addr) (vs : List V) (x y : Option V), σ = [some (.int n), some (.ref l), x, y] ∧ H' l = some (.lst vs) ∧ LotsV K H' vs (K06.lots i) ∧ Same H H')
      ⟨l, _, _, _, rfl, upd_same .., .cons ⟨t, rfl, SqT.of ((upd_ne (ne_of_none (upd_same ..) hl)).trans (upd_same ..))⟩ .nil, sm0⟩ (fun i σ H' hi h => ?_) (fun σ H' h => ?_)
    · obtain ⟨l, vs, x, y, rfl, e, lv, sm⟩ := h
      have hl32 := lots_small (n := i) (by omega)
      have hlen := lot_pairs lv
      refine ⟨_, rfl, _, rfl, l, rfl, ⟨_, SqL.of e⟩, fun D hD => ?_⟩
      refine lc_list (K := K) (xs := vs) (fun j H2 => Same H' H2 ∧ ∃ acc, H2 D = some (.lst acc) ∧ LotsV K H2 acc (((K06.lots i).take j).map (· ++ [(i : Int)]))) ⟨same_upd hD, [], upd_same .., .nil⟩ (fun j H2 _ h => SqL.of (h.1 _ _ e)) (fun j v H2 hv h => ?_) (fun H2 h => ?_)
      · obtain ⟨sm2, acc, eD, lv2⟩ := h
        obtain ⟨g, hg, a, rfl, hS⟩ := paired_at lv hv
        have hlen2 := lot_pairs lv2
        rw [List.length_map, List.length_take] at hlen2
        have hS2 := Same.tup sm2 hS
        have hgl := K06.lot_len (List.mem_of_getElem? hg)
        have fin : ∀ (p : Addr) (H3 : Hp), Same H2 H3 → SqT K H3 p (g.map V.int ++ [V.int (0 + (i : Nat))]) → ∃ acc, H3 D = some (.lst acc) ∧ acc.length < sizeLine ∧ (Same H' (upd H3 D (.lst (acc ++ [.ref p]))) ∧ ∃ acc', upd H3 D (.lst (acc ++ [.ref p])) D = some (.lst acc') ∧ LotsV K (upd H3 D (.lst (acc ++ [.ref p]))) acc' (((K06.lots i).take (j + 1)).map (· ++ [(i : Int)]))) := by
          intro p H3 s3 hp3
          have eD3 := s3 _ _ eD
          refine ⟨acc, eD3, line1000 (by omega), same_upd2 (Same.trans' sm2 s3) hD, _, upd_same .., ?_⟩
          rw [take_next hg, List.map_append]
          refine lotsV_app (lotsV_keepD (lotsV_same s3 lv2) eD3) (.cons ⟨p, rfl, tup_upd_lst ?_ eD3⟩ .nil)
          rw [List.map_append]
          rw [show (0 : Int) + (i : Nat) = (i : Nat) by omega] at hp3
          exact hp3
        refine ⟨rfl, _, rfl, _, rfl, (show 1 ≤ sizeLine by decide), fun b hb => ?_⟩
        have sb : Same H2 (upd H2 b (.tup [V.int (0 + (i : Nat))])) := same_upd hb
        refine ⟨a, b, _, _, rfl, rfl, Same.tup sb hS2, SqT.of (upd_same ..), ?_, fun hx => ?_, fun _ hy => (by cases hy), fun hx _ p hp => ?_⟩
        · rw [List.length_map]
          exact Nat.le_of_lt (line1000 (by simp only [List.length_cons, List.length_nil]; omega))
        · refine fin b _ sb ?_
          rw [hx]
          exact SqT.of (upd_same ..)
        · exact fin p _ (Same.trans' sb (same_upd hp)) (SqT.of (upd_same ..))
      · obtain ⟨sm2, acc, eD, lv2⟩ := h
        rw [hlen, List.take_length] at lv2
        have hlen2 := lot_pairs lv2
        rw [List.length_map] at hlen2
        refine ⟨l, D, vs, acc, rfl, rfl, sm2 _ _ e, eD, Nat.le_of_lt (line1000 (by omega)), fun p hp => ?_⟩
        refine ⟨p, vs ++ acc, _, _, rfl, upd_same .., ?_, Same.trans' (Same.trans' sm sm2) (same_upd hp)⟩
        show LotsV K _ _ (K06.lots i ++ (K06.lots i).map (· ++ [(i : Int)]))
        exact lotsV_same (same_upd hp) (lotsV_app (lotsV_same sm2 lv) lv2)
    · obtain ⟨l, vs, x, y, rfl, e, lv, sm⟩ := h
      rw [show ((n : Int)).toNat = n by omega] at lv
      obtain ⟨r, er⟩ := lots_head n
      have dp := dp_lots lv
      rw [er, List.map_cons] at dp
      refine ⟨_, rfl, l, vs, r.map dG, rfl, SqL.of e, dp, fun d hd => ?_, ?_, ?_, fun ys p hp hpn => ?_⟩
      · obtain ⟨g, _, rfl⟩ := List.mem_map.mp hd
        exact ⟨_, rfl⟩
      · have := alikeAll_dG (K06.lots n)
        rw [er, List.map_cons] at this
        exact this
      · intro d hd
        rw [show PyData.tuple [] :: r.map dG = ([] :: r).map dG from rfl] at hd
        obtain ⟨g, _, rfl⟩ := List.mem_map.mp hd
        rw [dep_dG]
        omega
      · obtain ⟨L, hL, lv2⟩ := paired_perm hp lv
        exact q p _ ys L (free_of sm hpn) (Same.trans' sm (same_upd hpn)) (upd_same ..) (lotsV_same (same_upd hpn) lv2) hL
end
end K06P

set_option maxRecDepth 100000
set_option maxHeartbeats 4000000
/-! least_gone. -/
namespace K06P
open PySem PySem.Spec PyProof.Rows L2 GxR
section
variable {P : Program} {w : World} {K : PySem.W.Frag} {mg : Str → Option Value} {base : Heap} {P1 P2 : Addr}
def spLeast (K : PySem.W.Frag) (P1 P2 : Addr) : Sp := fun vs H Q _ => ∃ (a : Addr) (ds : List Int) (p o : Int), vs = [.ref a, .int p, .int o] ∧ SqT K H a (ds.map V.int) ∧ K06.Deps ds ∧ TabG H P1 ∧ K06.Per ds p ∧ -1 ≤ o ∧ o < ds.length ∧
  (∀ (t : Addr) (H' : Hp) (S pre : List Int), Gr P1 P2 H H' → SqT K H' t (S.map V.int) → K06.Pre ds p o pre → S.Perm pre → S.Pairwise (· ≤ ·) → Q (.ref t) H') ∧ (∀ H', Gr P1 P2 H H' → o ≠ -1 → o ∉ K06.chain ds p → Q .non H')
theorem cut_take (xs : List V) (k : Nat) (h : k ≤ xs.length) : cutV xs none (some (k : Int)) = xs.take k := by
  unfold cutV
  rw [HT.sIx_none, HT.sIx_nat, List.drop_zero, Nat.sub_zero, Nat.min_eq_left h]
theorem eqV_ii (a b : Int) : eqV (.int a) (.int b) = decide (a = b) := by
  show (a == b) = _
  by_cases e : a = b
  · subst e
    simp
  · simp [e]
theorem ok_least {f : Addr} {fd : FuncData} (F : Fun K "least_gone" "least_gone" sLeastGone f fd) (CD : Cal P w K mg base "need_deputies" 2 ["deputies"] (spNeedDep K P1)) (CP : Cal P w K mg base "need_person" 2 ["deputies", "person"] (spNeedPer K)) (CH : Cal P w K mg base "need_holder" 2 ["deputies", "other"] (spNeedHold K)) (CC : Cal P w K mg base "chain_of" 1 ["deputies", "person"] (spChain K)) (M : Names mg) :
    FnOk P w K mg base CX0 3 f fd ["deputies", "person", "other"] (spLeast K P1 P2) := by
  refine F.ok scLeastGone (fun vs H Q E h => ?_) (fun cdv A outer s H vs Q E hr h => ?_)
  · obtain ⟨a, ds, p, o, rfl, _⟩ := h
    rfl
  · obtain ⟨a, ds, p, o, rfl, hS, D, hT, hp, ho1, ho2, q1, q2⟩ := h
    have hr1 := hr.mono (show 1 ≤ 2 by omega)
    refine ⟨_, pss_cons (ps_expr (pe_cal CD hr (by rfl) (pa_cons (pv 0) pa_nil))) (pss_cons (ps_expr (pe_cal CP hr (by rfl) (pa_cons (pv 0) (pa_cons (pv 1) pa_nil)))) (pss_cons (ps_expr (pe_cal CH hr (by rfl) (pa_cons (pv 0) (pa_cons (pv 2) pa_nil))))
      (pss_cons (ps_set (i := 3) scLeastGone.nd rfl (Or.inl rfl) (pe_cal CC hr1 (by rfl) (pa_cons (pv 0) (pa_cons (pv 1) pa_nil))))
      (pss_cons (ps_if (pt_cmpR op_eq (pv 2) (pe_un un_neg pe_int) (nomark _)) (pss_one (ps_ret (pe_tupleOf (by rfl) M.tuple (pe_callB cr_sorted (by rfl) M.sorted boot_sorted (pa_cons (pv 3) pa_nil))))) pss_nil)
      (pss_one (ps_ret (pe_ifExp (pt_cmpR op_in_seq (pv 2) (pv 3) (by with_unfolding_all rfl)) (pe_tupleOf (by rfl) M.tuple (pe_callB cr_sorted (by rfl) M.sorted boot_sorted (pa_cons (pe_slice sl_list (pv 3) po_none (po_some
        (pe_bm PySem.F.plainAttrs_list PySem.F.slot_list_index PySem.F.type_list_index mt_index (pv 3) (pa_cons (pv 2) pa_nil)))) pa_nil))) pe_non))))))), ?_⟩
    refine ⟨.ref a, rfl, a, ds, rfl, hS, D, hT, fun H1 v1 hH1 => ?_⟩
    have hS1 := tbd_tup hH1 hT hS
    refine ⟨.ref a, rfl, .int p, rfl, a, ds, p, rfl, hS1, hp, fun v2 => ?_⟩
    refine ⟨.ref a, rfl, .int o, rfl, a, ds, o, rfl, hS1, ho1, ho2, fun v3 => ?_⟩
    refine ⟨.ref a, rfl, .int p, rfl, a, ds, p, rfl, hS1, D, hp, fun l H2 hl sm e => ?_⟩
    have g2 : Gr P1 P2 H H2 := (Gr.tab1 hH1).trans (Gr.same sm)
    have hcl := K06.chain_len D hp
    have h5 := D.hi
    have fin : ∀ (l : Addr) (H3 : Hp) (pre : List Int), Gr P1 P2 H H3 → H3 l = some (.lst (pre.map V.int)) → pre.length < 64 → K06.Pre ds p o pre → rSorted K [.ref l] H3 (fun x H4 => kTup K x H4 Q) := by
      intro l H3 pre g3 e3 hl3 hpre
      refine ⟨l, pre, rfl, SqL.of e3, hl3, fun S p1 hp1 hs1 hn1 => .inl ⟨p1, _, rfl, SqL.of (upd_same ..), fun t ht => ?_⟩⟩
      refine q1 t _ S pre (g3.trans (Gr.same (Same.trans' (same_upd hn1) (same_upd ht)))) (SqT.of (upd_same ..)) hpre hp1 hs1
    refine ⟨.int o, rfl, 1, rfl, rfl, _, rfl, ?_⟩
    by_cases h1 : o = -1
    · subst h1
      exact iteT ⟨.ref l, rfl, fin l H2 _ g2 e (by omega) (.inl ⟨rfl, rfl⟩)⟩
    · have e1 : decide (V.int o = V.int (-1)) = false := decide_eq_false (fun z => h1 (V.int.inj z))
      refine ite2 (fun z => absurd (e1.symm.trans z) (by decide)) (fun _ => ?_)
      refine ⟨.int o, rfl, .ref l, rfl, l, _, rfl, .inl (SqL.of e), rfl, flat_ints _, _, rfl, ?_⟩
      rw [inV_ints]
      by_cases h2 : o ∈ K06.chain ds p
      · rw [decide_eq_true h2]
        obtain ⟨pre, post, e2, e3⟩ := K06.mem_index _ o h2
        refine iteT ?_
        have hlen : (K06.chain ds p).length = pre.length + (post.length + 1) := by rw [e2, List.length_append]; rfl
        refine ⟨.ref l, rfl, .ref l, rfl, .inl ⟨rfl, _, SqL.of e⟩, .int o, rfl, l, _, .int o, pre.length, .int o, rfl, rfl, SqL.of e, rfl, flat_ints _, ?_, ?_, ?_, (pre.length : Int), rfl, ?_⟩
        · rw [e2, List.map_append, List.getElem?_append_right (by rw [List.length_map]; exact Nat.le_refl _), List.length_map, Nat.sub_self]
          rfl
        · rw [eqV_ii]
          simp
        · intro m z hm hz
          rw [e2, List.map_append, List.getElem?_append_left (by rw [List.length_map]; exact hm), List.getElem?_map] at hz
          cases hc : pre[m]? with
          | none => rw [hc] at hz; cases hz
          | some c =>
            rw [hc] at hz
            cases hz
            rw [eqV_ii]
            exact decide_eq_false fun z => e3 (by rw [← z]; exact List.mem_of_getElem? hc)
        · refine ⟨l, _, rfl, SqL.of e, fun l2 hl2 => ?_⟩
          rw [cut_take _ _ (by rw [List.length_map]; omega)]
          have e4 : ((K06.chain ds p).map V.int).take pre.length = pre.map V.int := by
            rw [← List.map_take, e2, List.take_left]
          rw [e4]
          refine fin l2 _ pre (g2.trans (Gr.same (same_upd hl2))) (upd_same ..) (by omega) (.inr ⟨h1, e3, post, e2⟩)
      · rw [decide_eq_false h2]
        exact iteF (q2 H2 g2 h1 h2)
end
end K06P

set_option maxRecDepth 100000
set_option maxHeartbeats 4000000
/-! loaded_lots, load_lots, fewest_load. -/
namespace K06P
open PySem PySem.Spec PyProof.Rows L2 GxR
section
variable {P : Program} {w : World} {K : PySem.W.Frag} {mg : Str → Option Value} {base : Heap} {P1 P2 : Addr}
def spLoaded (K : PySem.W.Frag) : Sp := fun vs H Q _ => ∃ (a : Addr) (ds : List Int) (p m : Int), vs = [.ref a, .int p, .int m] ∧ SqT K H a (ds.map V.int) ∧ K06.Deps ds ∧
  ∀ (l : Addr) (H' : Hp) (vs : List V) (L : List (List Int)), H l = none → Same H H' → H' l = some (.lst vs) → L.Perm (K06.lots ds.length) → LotsV K H' vs (K06.loaded ds p m L) → Q (.ref l) H'
theorem loaded_snoc (ds : List Int) (p m : Int) (L : List (List Int)) (g : List Int) : K06.loaded ds p m (L ++ [g]) = K06.loaded ds p m L ++ (if (decide (p ∉ g) && decide (m ≤ (K06.load ds g p : Int))) = true then [g] else []) := by
  unfold K06.loaded
  rw [List.filter_append]
  cases h : (decide (p ∉ g) && decide (m ≤ (K06.load ds g p : Int))) with
  | true => rw [List.filter_cons, h]; rfl
  | false => rw [List.filter_cons, h]; rfl
theorem ok_loaded {f : Addr} {fd : FuncData} (F : Fun K "loaded_lots" "loaded_lots" sLoaded f fd) (CL : Cal P w K mg base "all_lots" 1 ["size"] (spLots K)) (CH : Cal P w K mg base "all_holders" 3 ["deputies", "gone"] (spHolders K)) (M : Names mg) :
    FnOk P w K mg base CX0 4 f fd ["deputies", "person", "many"] (spLoaded K) := by
  refine F.ok scLoaded (fun vs H Q E h => ?_) (fun cdv A outer s H vs Q E hr h => ?_)
  · obtain ⟨a, ds, p, m, rfl, _⟩ := h
    rfl
  · obtain ⟨a, ds, p, m, rfl, hS, D, q⟩ := h
    have hr1 := hr.mono (show 1 ≤ 3 by omega)
    refine ⟨_, pss_cons (ps_set (i := 3) scLoaded.nd rfl (Or.inl rfl) (pe_lst pa_nil)) (pss_cons (ps_for PassesOwn.never rfl (pi_list (pe_cal CL hr1 (by rfl) (pa_cons (pe_callB call_len_seq (by rfl) M.len PySem.boot_len (pa_cons (pv 0) pa_nil)) pa_nil))) (pg_name (i := 4) scLoaded.nd rfl (Or.inl rfl))
      (pss_one (ps_if (PW.pt (pw_and (pt_cmpR op_notIn_seq (pv 1) (pv 4) (by with_unfolding_all rfl)) (pw_and1 (pt_cmpR op_ge (pe_bm PySem.F.plainAttrs_list PySem.F.slot_list_count PySem.F.type_list_count mt_lcount (pe_cal CH hr (by rfl) (pa_cons (pv 0) (pa_cons (pv 4) pa_nil))) (pa_cons (pv 1) pa_nil)) (pv 2) (nomark _)))))
        (pss_one (ps_expr (pe_bm PySem.F.plainAttrs_list PySem.F.slot_list_append PySem.F.type_list_append mt_append (pv 3) (pa_cons (pv 4) pa_nil)))) pss_nil))) (pss_one (ps_ret (pv 3)))), ?_⟩
    have h5 := D.hi
    refine ⟨by decide, fun l hl => ?_⟩
    have s0 : Same H (upd H l (.lst [])) := same_upd hl
    refine ⟨_, rfl, a, _, rfl, .inr (Same.tup s0 hS), ds.length, ?_, h5, fun l0 H1 vL L hl0 sm1 e1 lv1 hL => ?_⟩
    · rw [List.length_map]
      rfl
    have hne : l ≠ l0 := ne_of_none (upd_same ..) hl0
    have hL32 : L.length ≤ 32 := by
      rw [hL.length_eq]
      exact lots_small h5
    have hvL := lot_pairs lv1
    refine ⟨l0, rfl, ⟨_, SqL.of e1⟩, for_list (K := K) (xs := vL) (fun i σ H' => ∃ (x : Option V) (acc : List V), σ = [some (.ref a), some (.int p), some (.int m), some (.ref l), x] ∧ H' l = some (.lst acc) ∧ H' l0 = some (.lst vL) ∧ Same H H' ∧ LotsV K H' vL L ∧ LotsV K H' acc (K06.loaded ds p m (L.take i)))
      ⟨_, [], rfl, sm1 _ _ (upd_same ..), e1, Same.trans' s0 sm1, lv1, .nil⟩ (fun i σ H' _ h => by
        obtain ⟨x, acc, _, _, e, _⟩ := h
        exact SqL.of e) (fun i v σ H' hv h => ?_) (fun σ H' h => ?_)⟩
    · obtain ⟨x, acc, rfl, eD, e0, sm, lv, la⟩ := h
      obtain ⟨g, hg, b, rfl, hB⟩ := paired_at lv hv
      refine ⟨_, rfl, _, rfl, b, _, rfl, .inr hB, rfl, flat_ints _, _, rfl, ?_⟩
      rw [inV_ints]
      have hacc := lot_pairs la
      have hle : (K06.loaded ds p m (L.take i)).length ≤ 32 := by
        refine Nat.le_trans (List.length_filter_le _ _) ?_
        rw [List.length_take]
        omega
      by_cases h1 : p ∈ g
      · rw [decide_eq_true h1]
        refine iteF (iteF ⟨_, acc, rfl, eD, e0, sm, lv, ?_⟩)
        rw [take_next hg, loaded_snoc, decide_eq_false (fun z => z h1), Bool.false_and, if_neg (by decide), List.append_nil]
        exact la
      · rw [decide_eq_false h1]
        refine iteT ⟨_, rfl, _, rfl, a, b, ds, g, rfl, Same.tup sm hS, hB, D, fun l2 H2 hl2 sm2 e2 => ?_⟩
        refine ⟨.inl ⟨rfl, _, SqL.of e2⟩, _, rfl, l2, _, p, rfl, rfl, SqL.of e2, ?_⟩
        refine ⟨_, rfl, ((K06.load ds g p : Nat) : Int), m, rfl, rfl, _, rfl, ?_⟩
        have base : H2 l = some (.lst acc) ∧ H2 l0 = some (.lst vL) ∧ Same H H2 ∧ LotsV K H2 vL L ∧ LotsV K H2 acc (K06.loaded ds p m (L.take i)) :=
          ⟨sm2 _ _ eD, sm2 _ _ e0, Same.trans' sm sm2, lotsV_same sm2 lv, lotsV_same sm2 la⟩
        obtain ⟨b1, b2, b3, b4, b5⟩ := base
        by_cases h2 : m ≤ (K06.load ds g p : Int)
        · rw [decide_eq_true h2]
          refine iteT ⟨_, rfl, .inl ⟨rfl, _, SqL.of b1⟩, _, rfl, l, acc, _, rfl, rfl, b1, line1000 (by omega), ?_⟩
          refine ⟨_, _, rfl, upd_same .., (upd_ne (fun z => hne z.symm)).trans b2, same_upd2 b3 hl, lotsV_keepD b4 b1, ?_⟩
          rw [take_next hg, loaded_snoc, decide_eq_true h1, decide_eq_true h2, Bool.true_and, if_pos rfl]
          exact lotsV_app (lotsV_keepD b5 b1) (.cons ⟨b, rfl, tup_upd_lst (Same.tup sm2 hB) b1⟩ .nil)
        · rw [decide_eq_false h2]
          refine iteF ⟨_, acc, rfl, b1, b2, b3, b4, ?_⟩
          rw [take_next hg, loaded_snoc, decide_eq_false h2, Bool.and_false, if_neg (by decide), List.append_nil]
          exact b5
    · obtain ⟨x, acc, rfl, eD, e0, sm, lv, la⟩ := h
      rw [hvL, List.take_length] at la
      exact ⟨_, rfl, q l H' acc L hl sm eD hL la⟩

/-! ### pairs (number, lot) -/
def PV (K : PySem.W.Frag) (H : Hp) (v : V) (q : Int × List Int) : Prop := ∃ t b : Addr, v = .ref t ∧ SqT K H t [.int q.1, .ref b] ∧ SqT K H b (q.2.map V.int)
abbrev PairsV (K : PySem.W.Frag) (H : Hp) : List V → List (Int × List Int) → Prop := Paired (PV K H)
theorem pairsV_same {H H' : Hp} {vs : List V} {L : List (Int × List Int)} (s : Same H H') (h : PairsV K H vs L) : PairsV K H' vs L := L2.Paired.mapP h fun v g ⟨t, b, e, q, q2⟩ => ⟨t, b, e, Same.tup s q, Same.tup s q2⟩
theorem pairsV_keepD {H : Hp} {D : Addr} {acc acc2 : List V} {vs : List V} {L : List (Int × List Int)} (h : PairsV K H vs L) (e : H D = some (.lst acc)) : PairsV K (upd H D (.lst acc2)) vs L := L2.Paired.mapP h fun v g ⟨t, b, r, q, q2⟩ => ⟨t, b, r, tup_upd_lst q e, tup_upd_lst q2 e⟩
theorem pairsV_app {H : Hp} {ws : List V} {M : List (Int × List Int)} : ∀ {vs : List V} {L : List (Int × List Int)}, PairsV K H vs L → PairsV K H ws M → PairsV K H (vs ++ ws) (L ++ M)
  | _, _, .nil, h => h
  | _, _, .cons r t, h => .cons r (pairsV_app t h)
theorem dp_pairs {H : Hp} : ∀ {vs : List V} {L : List (Int × List Int)}, PairsV K H vs L → DpAll K H vs (L.map fun q => dP q.1 q.2)
  | _, _, .nil => .nil
  | _, _, .cons ⟨t, b, e, q, q2⟩ r => by
    rw [e]
    exact .cons (.tup q (.cons (.int _) (.cons (dp_lot q2) .nil))) (dp_pairs r)
theorem depth_pairs (L : List (Int × List Int)) : PyData.depthAll (L.map fun q => dP q.1 q.2) ≤ 60 := depth_all 60 _ fun d hd => by
  obtain ⟨q, _, rfl⟩ := List.mem_map.mp hd
  have := SeqAt.depth_of_shaped (shaped_dP q.1 q.2)
  have h2 := dep_dG q.2
  simp only [PyData.depth, PyData.depthAll] at h2 ⊢
  omega
theorem alike_pairs (L : List (Int × List Int)) : PySem.W.AlikeAll (L.map fun q => dP q.1 q.2) := ⟨fun x hx y hy => by
  obtain ⟨q, _, rfl⟩ := List.mem_map.mp hx
  obtain ⟨r, _, rfl⟩ := List.mem_map.mp hy
  exact alike_dP _ _ _ _, fun x hx => by
  obtain ⟨q, _, rfl⟩ := List.mem_map.mp hx
  intro z
  cases z⟩
end
end K06P

set_option maxRecDepth 100000
set_option maxHeartbeats 4000000
/-! load_lots, fewest_load, shows_fewest_load. -/
namespace K06P
open PySem PySem.Spec PyProof.Rows L2 GxR
section
variable {P : Program} {w : World} {K : PySem.W.Frag} {mg : Str → Option Value} {base : Heap} {P1 P2 : Addr}
/-- what these calls ask -/
structure Ask (K : PySem.W.Frag) (P1 : Addr) (H : Hp) (a : Addr) (ds : List Int) (p m : Int) : Prop where
  s : SqT K H a (ds.map V.int)
  d : K06.Deps ds
  t : TabG H P1
  p : K06.Per ds p
  m0 : 0 ≤ m
  m6 : m ≤ 6
def spLoadLots (K : PySem.W.Frag) (P1 P2 : Addr) : Sp := fun vs H Q _ => ∃ (a : Addr) (ds : List Int) (p m : Int), vs = [.ref a, .int p, .int m] ∧ Ask K P1 H a ds p m ∧ ∀ H', Gr P1 P2 H H' → Q (.int ((K06.loaded ds p m (K06.lots ds.length)).length : Nat)) H'
theorem ok_loadlots {f : Addr} {fd : FuncData} (F : Fun K "load_lots" "load_lots" sLoadLots f fd) (CW : Cal P w K mg base "need_wanted" 3 ["deputies", "person", "many"] (spNeedWanted K P1)) (CL : Cal P w K mg base "loaded_lots" 4 ["deputies", "person", "many"] (spLoaded K)) (M : Names mg) :
    FnOk P w K mg base CX0 5 f fd ["deputies", "person", "many"] (spLoadLots K P1 P2) := by
  refine F.ok scLoadLots (fun vs H Q E h => ?_) (fun cdv A outer s H vs Q E hr h => ?_)
  · obtain ⟨a, ds, p, m, rfl, _⟩ := h
    rfl
  · obtain ⟨a, ds, p, m, rfl, k, q⟩ := h
    have hr3 := hr.mono (show 3 ≤ 4 by omega)
    refine ⟨_, pss_cons (ps_expr (pe_cal CW hr3 (by rfl) (pa_cons (pv 0) (pa_cons (pv 1) (pa_cons (pv 2) pa_nil))))) (pss_one (ps_ret (pe_callB call_len_seq (by rfl) M.len PySem.boot_len (pa_cons (pe_cal CL hr (by rfl) (pa_cons (pv 0) (pa_cons (pv 1) (pa_cons (pv 2) pa_nil)))) pa_nil)))), ?_⟩
    refine ⟨_, rfl, _, rfl, _, rfl, a, ds, p, m, rfl, k.s, k.d, k.t, k.p, k.m0, k.m6, fun H1 v1 hH1 => ?_⟩
    refine ⟨_, rfl, _, rfl, _, rfl, a, ds, p, m, rfl, tbd_tup hH1 k.t k.s, k.d, fun l H2 vs L hl sm e hL lv => ?_⟩
    refine ⟨l, vs, rfl, .inl (SqL.of e), ?_⟩
    rw [lot_pairs lv, (K06.loaded_perm (p := p) (many := m) (ds := ds) hL).length_eq]
    exact q H2 ((Gr.tab1 hH1).trans (Gr.same sm))
def spFewest (K : PySem.W.Frag) (P1 P2 : Addr) : Sp := fun vs H Q _ => ∃ (a : Addr) (ds : List Int) (p m : Int), vs = [.ref a, .int p, .int m] ∧ Ask K P1 H a ds p m ∧
  (∀ H', Gr P1 P2 H H' → K06.loaded ds p m (K06.lots ds.length) = [] → Q .non H') ∧
  (∀ (t : Addr) (H' : Hp) (g : List Int) (s : List (List Int)), Gr P1 P2 H H' → SqT K H' t (g.map V.int) → s.Perm (K06.loaded ds p m (K06.lots ds.length)) → g ∈ s → (∀ g' ∈ s, ¬ K06.pairLt ((g'.length : Int), g') ((g.length : Int), g)) → Q (.ref t) H')
theorem perm_nil {α : Type} {s t : List α} (h : s.Perm t) : s = [] ↔ t = [] := ⟨fun e => by rw [e] at h; exact List.nil_perm.mp h, fun e => by rw [e] at h; exact List.perm_nil.mp h⟩
theorem ok_fewest {f : Addr} {fd : FuncData} (F : Fun K "fewest_load" "fewest_load" sFewest f fd) (CW : Cal P w K mg base "need_wanted" 3 ["deputies", "person", "many"] (spNeedWanted K P1)) (CL : Cal P w K mg base "loaded_lots" 4 ["deputies", "person", "many"] (spLoaded K)) (M : Names mg) :
    FnOk P w K mg base CX0 5 f fd ["deputies", "person", "many"] (spFewest K P1 P2) := by
  refine F.ok scFewest (fun vs H Q E h => ?_) (fun cdv A outer s H vs Q E hr h => ?_)
  · obtain ⟨a, ds, p, m, rfl, _⟩ := h
    rfl
  · obtain ⟨a, ds, p, m, rfl, k, q1, q2⟩ := h
    have hr3 := hr.mono (show 3 ≤ 4 by omega)
    refine ⟨_, pss_cons (ps_expr (pe_cal CW hr3 (by rfl) (pa_cons (pv 0) (pa_cons (pv 1) (pa_cons (pv 2) pa_nil))))) (pss_cons (ps_setLc (i := 3) (own := [("lot", 4)]) (g := gName 4) (tt := tYes) (te := tTup (tCons (tCB (fun xs H Q => ∃ p ys, xs = [.ref p] ∧ (SqL K H p ys ∨ SqT K H p ys) ∧ Q (.int ys.length) H) (tCons (tVar 4) tNil)) (tCons (tVar 4) tNil))) rfl scFewest.nd rfl rfl (sw_true rfl rfl rfl (by decide +kernel))
      (pi_list (pe_cal CL hr (by rfl) (pa_cons (pv 0) (pa_cons (pv 1) (pa_cons (pv 2) pa_nil))))) (blkOk_by (N := ["deputies", "person", "many", "some", "lot"]) (sc := defScope sFewest) (by decide +kernel)) (fun _ _ _ _ _ => pg_name (i := 4) scFewest.nd rfl (Or.inl rfl)) (fun _ _ _ _ _ => pts_nil)
      (fun _ _ _ _ _ => pe_tup (pa_cons (pe_callB call_len_seq (by rfl) M.len PySem.boot_len (pa_cons (pv 4) pa_nil)) (pa_cons (pv 4) pa_nil))))
      (pss_one (ps_ret (pe_ifExp (pt_truth (pv 3) (fun _ => rfl)) (pe_ix ix_tup (pe_callB (K06R.cr_minD rfl (hu64 hr)) (by rfl) M.min boot_min (pa_cons (pv 3) pa_nil)) pe_int (fun _ _ => rfl)) pe_non)))), ?_⟩
    refine ⟨_, rfl, _, rfl, _, rfl, a, ds, p, m, rfl, k.s, k.d, k.t, k.p, k.m0, k.m6, fun H1 v1 hH1 => ?_⟩
    refine ⟨_, rfl, _, rfl, _, rfl, a, ds, p, m, rfl, tbd_tup hH1 k.t k.s, k.d, fun l H2 vs L hl sm e hL lv => ?_⟩
    have hpm := K06.loaded_perm (p := p) (many := m) (ds := ds) hL
    have g2 : Gr P1 P2 H H2 := (Gr.tab1 hH1).trans (Gr.same sm)
    have h5 := k.d.hi
    have hlen := lot_pairs lv
    have hle : vs.length ≤ 32 := by
      rw [hlen, hpm.length_eq]
      exact Nat.le_trans (List.length_filter_le _ _) (lots_small h5)
    refine ⟨l, rfl, ⟨_, SqL.of e⟩, fun D0 hD0 => ?_⟩
    refine lc_list (K := K) (xs := vs) (fun i H3 => Same H2 H3 ∧ ∃ acc, H3 D0 = some (.lst acc) ∧ PairsV K H3 acc (((K06.loaded ds p m L).take i).map fun g => ((g.length : Int), g))) ⟨same_upd hD0, [], upd_same .., .nil⟩ (fun j H3 _ h => SqL.of (h.1 _ _ e)) (fun i v H3 hv h => ?_) (fun H3 h => ?_)
    · obtain ⟨sm3, acc, eD, pv⟩ := h
      obtain ⟨g, hg, b, rfl, hB⟩ := paired_at lv hv
      have hacc := pv.length
      rw [List.length_map, List.length_take] at hacc
      refine ⟨rfl, _, rfl, b, _, rfl, .inr (Same.tup sm3 hB), _, rfl, (show 2 ≤ sizeLine by decide), fun t ht => ?_⟩
      have st : Same H3 (upd H3 t (.tup [V.int ((g.map V.int).length : Int), .ref b])) := same_upd ht
      refine ⟨acc, st _ _ eD, line1000 (by omega), same_upd2 (Same.trans' sm3 st) hD0, _, upd_same .., ?_⟩
      rw [take_next hg, List.map_append]
      have eD' := st _ _ eD
      refine pairsV_app (pairsV_keepD (pairsV_same st pv) eD') (.cons ⟨t, b, rfl, tup_upd_lst ?_ eD', tup_upd_lst (Same.tup (Same.trans' sm3 st) hB) eD'⟩ .nil)
      rw [List.length_map]
      exact SqT.of (upd_same ..)
    · obtain ⟨sm3, acc, eD, pv⟩ := h
      rw [hlen, List.take_length] at pv
      have g3 : Gr P1 P2 H H3 := g2.trans (Gr.same sm3)
      refine ⟨.ref D0, rfl, !acc.isEmpty, .inl ⟨acc, SqL.of eD, rfl⟩, ?_⟩
      have hpl := pv.length
      rw [List.length_map] at hpl
      cases hac : acc with
      | nil =>
        refine iteF (q1 H3 g3 ?_)
        rw [hac] at hpl
        exact (perm_nil hpm).mp (List.eq_nil_of_length_eq_zero hpl.symm)
      | cons z zs =>
        rw [hac] at pv eD
        refine iteT ⟨.ref D0, rfl, D0, _, _, rfl, SqL.of eD, dp_pairs pv, alike_pairs _, ?_, depth_pairs _, fun i v d hv hd hmin => ?_⟩
        · intro z
          have := congrArg List.length z
          rw [List.length_map, List.length_map, ← hpl, hac] at this
          cases this
        · obtain ⟨q, hq, t, b, rfl, hT, hB⟩ := paired_at pv hv
          rw [List.getElem?_map, hq] at hd
          cases hd
          obtain ⟨g, hg, rfl⟩ := List.mem_map.mp (List.mem_of_getElem? hq)
          refine ⟨t, _, 1, _, rfl, rfl, hT, rfl, ?_⟩
          refine q2 b H3 g _ g3 hB hpm hg fun g' hg' z => ?_
          have := hmin (dP (g'.length : Int) g') (List.mem_map.mpr ⟨((g'.length : Int), g'), List.mem_map.mpr ⟨g', hg', rfl⟩, rfl⟩)
          rw [(lt_dP _ _ _ _).mpr z] at this
          cases this

/-! ### shows_fewest_load -/
def NotTup (H : Hp) (x : V) : Prop := (∃ i, x = .int i) ∨ ∃ (c : Addr) (xs : List V), x = .ref c ∧ H c = some (.lst xs)
theorem notTup_gr {H H' : Hp} {x : V} (g : Gr P1 P2 H H') (t : Tb P1 P2 H) (h : NotTup H x) : NotTup H' x := by
  rcases h with h | ⟨c, xs, e, h⟩
  · exact .inl h
  · exact .inr ⟨c, xs, e, g.at t h (fun _ z => by cases z)⟩
theorem notTup_ty {H : Hp} {x : V} (h : NotTup H x) : ∃ t, TyX K H x (.type t) ∧ kitB t "tuple" = some false := by
  rcases h with ⟨i, rfl⟩ | ⟨c, xs, rfl, h⟩
  · exact ⟨"int", .base (.int _), by decide +kernel⟩
  · exact ⟨"list", .base (.lst h), by decide +kernel⟩
def spShowsF (K : PySem.W.Frag) (P1 P2 : Addr) : Sp := fun vs H Q _ => ∃ (a : Addr) (ds : List Int) (p m : Int) (x : V), vs = [.ref a, .int p, .int m, x] ∧ Ask K P1 H a ds p m ∧ TabG H P2 ∧
  ((x = .non ∧ ∀ H' b, Gr P1 P2 H H' → (b = true ↔ K06.loaded ds p m (K06.lots ds.length) = []) → Q (.bl b) H') ∨
   (∃ (c : Addr) (xs : List V), x = .ref c ∧ SqT K H c xs ∧ xs.length ≤ 1000 ∧ (∀ x ∈ xs, (∃ i, x = .int i) ∨ x = .non) ∧ ∀ H' b, Gr P1 P2 H H' → (b = true ↔ ∃ g : List Int, xs = g.map V.int ∧ g ∈ K06.leastOf (K06.loaded ds p m (K06.lots ds.length))) → Q (.bl b) H') ∨
   (NotTup H x ∧ ∀ H', Gr P1 P2 H H' → Q (.bl false) H'))
theorem map_int_inj {a b : List Int} (h : a.map V.int = b.map V.int) : a = b := (List.map_inj_right fun x y z => V.int.inj z).mp h
theorem ok_showsf {f : Addr} {fd : FuncData} (F : Fun K "shows_fewest_load" "shows_fewest_load" sShowsF f fd) (CW : Cal P w K mg base "need_wanted" 3 ["deputies", "person", "many"] (spNeedWanted K P1)) (CL : Cal P w K mg base "loaded_lots" 4 ["deputies", "person", "many"] (spLoaded K)) (CS : Cal P w K mg base "is_lot" 1 ["size", "value"] (spIsLot K P2)) (M : Names mg) :
    FnOk P w K mg base CX0 5 f fd ["deputies", "person", "many", "value"] (spShowsF K P1 P2) := by
  refine F.ok scShowsF (fun vs H Q E h => ?_) (fun cdv A outer s H vs Q E hr h => ?_)
  · obtain ⟨a, ds, p, m, x, rfl, _⟩ := h
    rfl
  · obtain ⟨a, ds, p, m, x, rfl, k, t2, hq⟩ := h
    have hr3 := hr.mono (show 3 ≤ 4 by omega)
    have hr1 := hr.mono (show 1 ≤ 4 by omega)
    refine ⟨_, pss_cons (ps_expr (pe_cal CW hr3 (by rfl) (pa_cons (pv 0) (pa_cons (pv 1) (pa_cons (pv 2) pa_nil))))) (pss_cons (ps_set (i := 4) scShowsF.nd rfl (Or.inl rfl) (pe_cal CL hr (by rfl) (pa_cons (pv 0) (pa_cons (pv 1) (pa_cons (pv 2) pa_nil)))))
      (pss_cons (ps_if (PW.pt (pw_or (pt_cmpR op_isN (pv 3) pe_non (nomark _)) (pw_or1 (pt_not (pt_truth (pv 4) (fun _ => rfl)))))) (pss_one (ps_ret (pe_and (pe_cmpR op_isN (pv 3) pe_non (nomark _)) (pe_one (pe_notT (pv 4)))))) pss_nil)
      (pss_cons (ps_if (PW.pt (pw_or (pt_not (pt_val (pe_cal CS hr1 (by rfl) (pa_cons (pe_callB call_len_seq (by rfl) M.len PySem.boot_len (pa_cons (pv 0) pa_nil)) (pa_cons (pv 3) pa_nil))))) (pw_or1 (pt_cmpR (op_notInD (hu65 hr)) (pv 3) (pv 4) (by with_unfolding_all rfl))))) (pss_one (ps_ret pe_bl)) pss_nil)
      (pss_one (ps_ret (pe_cmpR op_eq (pe_callB call_len_seq (by rfl) M.len PySem.boot_len (pa_cons (pv 3) pa_nil)) (pe_callB (cr_min rfl) (by rfl) M.min boot_min (pa_cons
        (pe_lc (own := [("lot", 5)]) (g := gName 5) (tt := tYes) (te := tCB (fun xs H Q => ∃ p ys, xs = [.ref p] ∧ (SqL K H p ys ∨ SqT K H p ys) ∧ Q (.int ys.length) H) (tCons (tVar 5) tNil)) rfl scShowsF.nd
          (pi_list (pv 4)) (blkOk_by (N := ["deputies", "person", "many", "value", "some", "lot"]) (sc := defScope sShowsF) (by decide +kernel)) (fun _ _ _ _ _ => pg_name (i := 5) scShowsF.nd rfl (Or.inl rfl)) (fun _ _ _ _ _ => pts_nil)
          (fun _ _ _ _ _ => pe_callB call_len_seq (by rfl) M.len PySem.boot_len (pa_cons (pv 5) pa_nil))) pa_nil)) (nomark _))))))), ?_⟩
    refine ⟨_, rfl, _, rfl, _, rfl, a, ds, p, m, rfl, k.s, k.d, k.t, k.p, k.m0, k.m6, fun H1 v1 hH1 => ?_⟩
    have hS1 := tbd_tup hH1 k.t k.s
    refine ⟨_, rfl, _, rfl, _, rfl, a, ds, p, m, rfl, hS1, k.d, fun l H2 vs L hl sm e hL lv => ?_⟩
    have hpm := K06.loaded_perm (p := p) (many := m) (ds := ds) hL
    have g2 : Gr P1 P2 H H2 := (Gr.tab1 hH1).trans (Gr.same sm)
    have tb : Tb P1 P2 H := ⟨k.t, t2⟩
    have h5 := k.d.hi
    have hlen := lot_pairs lv
    have hle : vs.length ≤ 32 := by
      rw [hlen, hpm.length_eq]
      exact Nat.le_trans (List.length_filter_le _ _) (lots_small h5)
    have hemp : ∀ b : Bool, (b = vs.isEmpty) → (b = true ↔ K06.loaded ds p m (K06.lots ds.length) = []) := by
      intro b hb
      rw [hb, List.isEmpty_iff_length_eq_zero, hlen, List.length_eq_zero_iff]
      exact perm_nil hpm
    rcases hq with ⟨rfl, q⟩ | ⟨c, xs, rfl, hX, hxl, hxp, q⟩ | ⟨hx, q⟩
    · -- None
      refine ⟨.non, rfl, rfl, _, rfl, ?_⟩
      rw [decide_eq_true rfl]
      refine iteT (iteT ⟨.non, rfl, rfl, true, ?_, iteT ⟨.ref l, rfl, !vs.isEmpty, .inl ⟨vs, SqL.of e, rfl⟩, q H2 _ g2 (hemp _ (by rw [Bool.not_not]))⟩⟩)
      rw [decide_eq_true rfl]
    · -- a tuple
      refine ⟨.ref c, rfl, rfl, _, rfl, ?_⟩
      rw [decide_eq_false (show ¬ V.ref c = .non from fun z => by cases z)]
      refine iteF ⟨.ref l, rfl, !vs.isEmpty, .inl ⟨vs, SqL.of e, rfl⟩, ?_⟩
      cases hv : vs with
      | nil =>
        refine iteT ⟨.ref c, rfl, rfl, false, ?_, iteF (q H2 false g2 ⟨(fun z => by cases z), fun ⟨g, _, hg⟩ => ?_⟩)⟩
        · rw [decide_eq_false (show ¬ V.ref c = .non from fun z => by cases z)]
        · have := (hemp true (by rw [hv]; rfl)).mp rfl
          rw [this] at hg
          cases hg
      | cons z zs =>
        refine iteF ⟨_, rfl, a, _, rfl, .inr (g2.tup tb k.s), .ref c, rfl, (ds.length : Int), .ref c, ?_, .inl ⟨c, xs, rfl, g2.tup tb hX, hxl, hxp, g2.t2 t2, fun b H3 hb hH3 => ⟨b, rfl, ?_⟩⟩⟩
        · rw [List.length_map]
          rfl
        have g3 : Gr P1 P2 H H3 := g2.trans (Gr.tab2 hH3)
        have tb2 := g2.tb tb
        have lv3 := lotsV_gr (Gr.tab2 (P1 := P1) hH3) tb2 lv
        have e3 : H3 l = some (.lst vs) := (Gr.tab2 (P1 := P1) hH3).at tb2 e (fun _ z => by cases z)
        cases b with
        | false =>
          refine iteT (q H3 false g3 ⟨(fun z => by cases z), fun ⟨g, e4, hg⟩ => ?_⟩)
          have h1 := K06.loaded_lots (List.Perm.refl _) (K06.leastOf_mem.mp hg).1
          have h2 := K06.lots_ok _ _ h1
          exact absurd (hb.mpr ⟨g, e4, h2.1, h2.2⟩) (by decide)
        | true =>
          obtain ⟨ns, e4, hn1, hn2⟩ := hb.mp rfl
          subst e4
          have hX3 := g3.tup tb hX
          refine iteF ⟨.ref c, rfl, .ref l, rfl, dG ns, (K06.loaded ds p m L).map dG, dp_lot hX3, .lst (SqL.of e3) (dp_lots lv3), shaped_dG ns, shaped_dL _, _, rfl, ?_⟩
          rw [any_dG]
          by_cases hin : ns ∈ K06.loaded ds p m L
          · rw [decide_eq_true hin]
            refine iteF ⟨.ref c, rfl, c, _, rfl, .inr hX3, .ref l, rfl, l, rfl, ⟨_, SqL.of e3⟩, fun D0 hD0 => ?_⟩
            refine lc_list (K := K) (xs := vs) (fun i H4 => Same H3 H4 ∧ H4 D0 = some (.lst (((K06.loaded ds p m L).take i).map fun g => V.int (g.length : Int)))) ⟨same_upd hD0, upd_same ..⟩ (fun j H4 _ h => SqL.of (h.1 _ _ e3)) (fun i v H4 hv' h => ?_) (fun H4 h => ?_)
            · obtain ⟨sm4, eD⟩ := h
              obtain ⟨g, hg, b, rfl, hB⟩ := paired_at lv3 hv'
              refine ⟨rfl, _, rfl, b, _, rfl, .inr (Same.tup sm4 hB), _, eD, line1000 (by rw [List.length_map, List.length_take]; omega), same_upd2 sm4 hD0, ?_⟩
              rw [upd_same, take_next hg, List.map_append, List.length_map]
              rfl
            · obtain ⟨sm4, eD⟩ := h
              rw [hlen, List.take_length] at eD
              have eD' : H4 D0 = some (.lst (((K06.loaded ds p m L).map fun g => (g.length : Int)).map V.int)) := by
                rw [eD, List.map_map]
                rfl
              refine ⟨D0, _, rfl, SqL.of eD', ?_, fun mm hm1 hm2 => ⟨rfl, ?_⟩⟩
              · rw [List.length_map, ← hlen, hv]
                exact Nat.succ_pos _
              · refine q H4 _ (g3.trans (Gr.same sm4)) ?_
                have sf := K06.shows_few hpm hm1 hm2 ns
                rw [decide_eq_true hin, Bool.true_and] at sf
                have e5 : decide (V.int ((ns.map V.int).length : Int) = V.int mm) = decide ((ns.length : Int) = mm) := by
                  rw [List.length_map]
                  exact decide_eq_decide.mpr ⟨fun z => V.int.inj z, fun z => by rw [z]⟩
                rw [e5, sf, decide_eq_true_eq]
                exact ⟨fun z => ⟨ns, rfl, z⟩, fun ⟨g, e6, hg⟩ => by rw [map_int_inj e6]; exact hg⟩
          · rw [decide_eq_false hin]
            refine iteT (q H3 false g3 ⟨(fun z => by cases z), fun ⟨g, e6, hg⟩ => ?_⟩)
            rw [← map_int_inj e6] at hg
            exact absurd (hpm.mem_iff.mpr (K06.leastOf_mem.mp hg).1) hin
    · -- not a tuple
      have hnn : ¬ x = .non := by
        rintro rfl
        rcases hx with ⟨i, z⟩ | ⟨c, xs, z, _⟩ <;> cases z
      refine ⟨x, rfl, rfl, _, rfl, ?_⟩
      rw [decide_eq_false hnn]
      refine iteF ⟨.ref l, rfl, !vs.isEmpty, .inl ⟨vs, SqL.of e, rfl⟩, ?_⟩
      cases hv : vs with
      | nil =>
        refine iteT ⟨x, rfl, rfl, false, ?_, iteF (q H2 g2)⟩
        rw [decide_eq_false hnn]
      | cons z zs =>
        obtain ⟨t, h1, h2⟩ := notTup_ty (K := K) (notTup_gr g2 tb hx)
        refine iteF ⟨_, rfl, a, _, rfl, .inr (g2.tup tb k.s), x, rfl, (ds.length : Int), x, ?_, .inr ⟨t, h1, h2, false, rfl, iteT (q H2 g2)⟩⟩
        rw [List.length_map]
        rfl
end
end K06P

set_option maxRecDepth 100000
set_option maxHeartbeats 4000000
/-! load_of, greatest_of, greatest_load. -/
namespace K06P
open PySem PySem.Spec PyProof.Rows L2 GxR
section
variable {P : Program} {w : World} {K : PySem.W.Frag} {mg : Str → Option Value} {base : Heap} {P1 P2 : Addr}
def spLoadOf (K : PySem.W.Frag) : Sp := fun vs H Q _ => ∃ (a b : Addr) (ds g : List Int), vs = [.ref a, .ref b] ∧ SqT K H a (ds.map V.int) ∧ SqT K H b (g.map V.int) ∧ K06.Deps ds ∧ ∀ H', Same H H' → Q (.int (K06.top ds g)) H'
theorem cut_last (c : List Int) (z : Int) : cutV ((c ++ [z]).map V.int) none (some (-1)) = c.map V.int := by
  unfold cutV
  rw [HT.sIx_none, List.drop_zero, Nat.sub_zero]
  have e : HT.sIx ((c ++ [z]).map V.int).length ((c ++ [z]).map V.int).length (some (-1)) = c.length := by
    show (if (-1 : Int) < 0 then (-1 + ((((c ++ [z]).map V.int).length : Nat) : Int)).toNat else min (-1 : Int).toNat ((c ++ [z]).map V.int).length) = _
    rw [if_pos (by decide), List.length_map, List.length_append]
    simp only [List.length_cons, List.length_nil]
    omega
  rw [e, List.map_append]
  have t := List.take_left (l₁ := c.map V.int) (l₂ := [z].map V.int)
  rw [List.length_map] at t
  exact t
theorem ok_loadof {f : Addr} {fd : FuncData} (F : Fun K "load_of" "load_of" sLoadOf f fd) (CL : Cal P w K mg base "all_loads" 4 ["deputies", "gone"] (spLoads K)) (M : Names mg) : FnOk P w K mg base CX0 5 f fd ["deputies", "lot"] (spLoadOf K) := by
  refine F.ok scLoadOf (fun vs H Q E h => ?_) (fun cdv A outer s H vs Q E hr h => ?_)
  · obtain ⟨a, b, ds, g, rfl, _⟩ := h
    rfl
  · obtain ⟨a, b, ds, g, rfl, hA, hB, D, q⟩ := h
    refine ⟨_, pss_one (ps_ret (pe_callB (cr_max rfl) (by rfl) M.max boot_max (pa_cons (pe_slice sl_list (pe_cal CL hr (by rfl) (pa_cons (pv 0) (pa_cons (pv 1) pa_nil))) po_none (po_some (pe_un un_neg pe_int))) pa_nil))), ?_⟩
    refine ⟨_, rfl, _, rfl, a, b, ds, g, rfl, hA, hB, D, fun z l H1 hl sm e => ?_⟩
    refine ⟨1, rfl, -1, rfl, l, _, rfl, SqL.of e, fun l2 hl2 => ?_⟩
    rw [cut_last]
    refine ⟨l2, _, rfl, SqL.of (upd_same ..), K06.counts_ne D, fun m h1 h2 => ?_⟩
    have := K06.maxI_eq h1 h2
    rw [this]
    exact q _ (Same.trans' sm (same_upd hl2))

def spGreatOf (K : PySem.W.Frag) : Sp := fun vs H Q _ => ∃ (a : Addr) (ds : List Int) (m : Int), vs = [.ref a, .int m] ∧ SqT K H a (ds.map V.int) ∧ K06.Deps ds ∧ 0 ≤ m ∧
  ∀ (t b : Addr) (H' : Hp) (g : List Int), Same H H' → SqT K H' t [.int (K06.best ds m (K06.lots ds.length)), .ref b] → SqT K H' b (g.map V.int) → g ∈ K06.lots ds.length → (g.length : Int) ≤ m → K06.top ds g = K06.best ds m (K06.lots ds.length) → Q (.ref t) H'
theorem small_snoc (m : Int) (L : List (List Int)) (g : List Int) : K06.small m (L ++ [g]) = K06.small m L ++ (if decide ((g.length : Int) ≤ m) = true then [g] else []) := by
  unfold K06.small
  rw [List.filter_append]
  cases h : decide ((g.length : Int) ≤ m) with
  | true => rw [List.filter_cons, h]; rfl
  | false => rw [List.filter_cons, h]; rfl
theorem ok_greatof {f : Addr} {fd : FuncData} (F : Fun K "greatest_of" "greatest_of" sGreatOf f fd) (CL : Cal P w K mg base "all_lots" 1 ["size"] (spLots K)) (CO : Cal P w K mg base "load_of" 5 ["deputies", "lot"] (spLoadOf K)) (M : Names mg) : FnOk P w K mg base CX0 6 f fd ["deputies", "many"] (spGreatOf K) := by
  refine F.ok scGreatOf (fun vs H Q E h => ?_) (fun cdv A outer s H vs Q E hr h => ?_)
  · obtain ⟨a, ds, m, rfl, _⟩ := h
    rfl
  · obtain ⟨a, ds, m, rfl, hA, D, hm, q⟩ := h
    have hr1 := hr.mono (show 1 ≤ 5 by omega)
    refine ⟨_, pss_one (ps_ret (pe_callB (K06R.cr_maxD rfl (hu64 hr)) (by rfl) M.max boot_max (pa_cons (pe_lc (own := [("lot", 2)]) (g := gName 2) (tt := tTest (tOp (rI0 fun i j => .bl (decide (i ≤ j))) (tCB (fun xs H Q => ∃ p ys, xs = [.ref p] ∧ (SqL K H p ys ∨ SqT K H p ys) ∧ Q (.int ys.length) H) (tCons (tVar 2) tNil)) (tVar 1)))
      (te := tTup (tCons (tCall (spLoadOf K) [] E0 (tCons (tVar 0) (tCons (tVar 2) tNil))) (tCons (tVar 2) tNil))) rfl scGreatOf.nd (pi_list (pe_cal CL hr1 (by rfl) (pa_cons (pe_callB call_len_seq (by rfl) M.len PySem.boot_len (pa_cons (pv 0) pa_nil)) pa_nil)))
      (blkOk_by (N := ["deputies", "many", "lot"]) (sc := defScope sGreatOf) (by decide +kernel)) (fun _ _ _ _ _ => pg_name (i := 2) scGreatOf.nd rfl (Or.inl rfl)) (fun _ _ _ _ _ => pts_one (pt_cmpR op_le (pe_callB call_len_seq (by rfl) M.len PySem.boot_len (pa_cons (pv 2) pa_nil)) (pv 1) (nomark _)))
      (fun _ _ _ _ _ => pe_tup (pa_cons (pe_cal CO hr (by rfl) (pa_cons (pv 0) (pa_cons (pv 2) pa_nil))) (pa_cons (pv 2) pa_nil)))) pa_nil))), ?_⟩
    have h5 := D.hi
    refine ⟨_, rfl, a, _, rfl, .inr hA, ds.length, ?_, h5, fun l0 H1 vL L hl0 sm1 e1 lv1 hL => ?_⟩
    · rw [List.length_map]
      rfl
    have hvL := lot_pairs lv1
    have hL32 : L.length ≤ 32 := by
      rw [hL.length_eq]
      exact lots_small h5
    refine ⟨l0, rfl, ⟨_, SqL.of e1⟩, fun D0 hD0 => ?_⟩
    refine lc_list (K := K) (xs := vL) (fun i H' => Same H1 H' ∧ ∃ acc, H' D0 = some (.lst acc) ∧ PairsV K H' acc ((K06.small m (L.take i)).map fun g => (K06.top ds g, g))) ⟨same_upd hD0, [], upd_same .., .nil⟩ (fun j H' _ h => SqL.of (h.1 _ _ e1)) (fun i v H' hv h => ?_) (fun H' h => ?_)
    · obtain ⟨sm, acc, eD, pv⟩ := h
      obtain ⟨g, hg, b, rfl, hB⟩ := paired_at lv1 hv
      have hle : acc.length ≤ 32 := by
        have h1 := pv.length
        rw [List.length_map] at h1
        rw [h1]
        refine Nat.le_trans (List.length_filter_le _ _) ?_
        rw [List.length_take]
        omega
      refine ⟨rfl, _, rfl, b, _, rfl, .inr (Same.tup sm hB), _, rfl, ((g.map V.int).length : Int), m, rfl, rfl, _, rfl, ?_⟩
      rw [List.length_map]
      by_cases hlm : (g.length : Int) ≤ m
      · rw [decide_eq_true hlm]
        refine iteT ⟨_, rfl, _, rfl, a, b, ds, g, rfl, Same.tup (Same.trans' sm1 sm) hA, Same.tup sm hB, D, fun H2 sm2 => ?_⟩
        refine ⟨_, rfl, (show 2 ≤ sizeLine by decide), fun t ht => ?_⟩
        have st : Same H2 (upd H2 t (.tup [V.int (K06.top ds g), .ref b])) := same_upd ht
        have s2 := Same.trans' sm2 st
        have eD' := s2 _ _ eD
        refine ⟨acc, eD', line1000 (by omega), same_upd2 (Same.trans' sm s2) hD0, _, upd_same .., ?_⟩
        rw [take_next hg, small_snoc, decide_eq_true hlm, if_pos rfl, List.map_append]
        exact pairsV_app (pairsV_keepD (pairsV_same s2 pv) eD') (.cons ⟨t, b, rfl, tup_upd_lst (SqT.of (upd_same ..)) eD', tup_upd_lst (Same.tup (Same.trans' sm s2) hB) eD'⟩ .nil)
      · rw [decide_eq_false hlm]
        refine iteF ⟨sm, acc, eD, ?_⟩
        rw [take_next hg, small_snoc, decide_eq_false hlm, if_neg (by decide), List.append_nil]
        exact pv
    · obtain ⟨sm, acc, eD, pv⟩ := h
      rw [hvL, List.take_length] at pv
      refine ⟨D0, _, _, rfl, SqL.of eD, dp_pairs pv, alike_pairs _, ?_, depth_pairs _, fun i v d hv hd hmax => ?_⟩
      · intro z
        have h1 := K06.small_ne hL hm
        rw [List.map_eq_nil_iff, List.map_eq_nil_iff] at z
        rw [z] at h1
        cases h1
      · obtain ⟨qq, hq, t, b, rfl, hT, hB⟩ := paired_at pv hv
        rw [List.getElem?_map, hq] at hd
        cases hd
        obtain ⟨g, hg, rfl⟩ := List.mem_map.mp (List.mem_of_getElem? hq)
        have hb := K06.best_of (ds := ds) (b := K06.top ds g) hg rfl fun g' hg' z => by
          have := hmax (dP (K06.top ds g') g') (List.mem_map.mpr ⟨(K06.top ds g', g'), List.mem_map.mpr ⟨g', hg', rfl⟩, rfl⟩)
          rw [(lt_dP _ _ _ _).mpr z] at this
          cases this
        rw [K06.best_perm hL hL hm] at hb
        have hgs := K06.small_mem.mp hg
        refine q t b H' g (Same.trans' sm1 sm) ?_ hB (hL.mem_iff.mp hgs.1) hgs.2 hb
        rw [← hb]
        exact hT
/-- what the greatest loads ask -/
structure AskG (K : PySem.W.Frag) (P1 : Addr) (H : Hp) (a : Addr) (ds : List Int) (m : Int) : Prop where
  s : SqT K H a (ds.map V.int)
  d : K06.Deps ds
  t : TabG H P1
  m0 : 0 ≤ m
  m6 : m ≤ 6
def spGreatest (K : PySem.W.Frag) (P1 P2 : Addr) : Sp := fun vs H Q _ => ∃ (a : Addr) (ds : List Int) (m : Int), vs = [.ref a, .int m] ∧ AskG K P1 H a ds m ∧
  ∀ (t b : Addr) (H' : Hp) (g : List Int), Gr P1 P2 H H' → SqT K H' t [.int (K06.best ds m (K06.lots ds.length)), .ref b] → SqT K H' b (g.map V.int) → g ∈ K06.lots ds.length → (g.length : Int) ≤ m → K06.top ds g = K06.best ds m (K06.lots ds.length) → Q (.ref t) H'
theorem ok_greatest {f : Addr} {fd : FuncData} (F : Fun K "greatest_load" "greatest_load" sGreatest f fd) (CM : Cal P w K mg base "need_most" 3 ["deputies", "many"] (spNeedMost K P1)) (CG : Cal P w K mg base "greatest_of" 6 ["deputies", "many"] (spGreatOf K)) (M : Names mg) : FnOk P w K mg base CX0 7 f fd ["deputies", "many"] (spGreatest K P1 P2) := by
  refine F.ok scGreatest (fun vs H Q E h => ?_) (fun cdv A outer s H vs Q E hr h => ?_)
  · obtain ⟨a, ds, m, rfl, _⟩ := h
    rfl
  · obtain ⟨a, ds, m, rfl, k, q⟩ := h
    have hr3 := hr.mono (show 3 ≤ 6 by omega)
    refine ⟨_, pss_cons (ps_expr (pe_cal CM hr3 (by rfl) (pa_cons (pv 0) (pa_cons (pv 1) pa_nil)))) (pss_one (ps_ret (pe_cal CG hr (by rfl) (pa_cons (pv 0) (pa_cons (pv 1) pa_nil))))), ?_⟩
    refine ⟨_, rfl, _, rfl, a, ds, m, rfl, k.s, k.d, k.t, k.m0, k.m6, fun H1 v1 hH1 => ?_⟩
    refine ⟨_, rfl, _, rfl, a, ds, m, rfl, tbd_tup hH1 k.t k.s, k.d, k.m0, fun t b H2 g sm h1 h2 h3 h4 h5 => ?_⟩
    exact q t b H2 g ((Gr.tab1 hH1).trans (Gr.same sm)) h1 h2 h3 h4 h5
end
end K06P

set_option maxRecDepth 100000
set_option maxHeartbeats 4000000
/-! shows_greatest_load. -/
namespace K06P
open PySem PySem.Spec PyProof.Rows L2 GxR
section
variable {P : Program} {w : World} {K : PySem.W.Frag} {mg : Str → Option Value} {base : Heap} {P1 P2 : Addr}
def spShowsG (K : PySem.W.Frag) (P1 P2 : Addr) : Sp := fun vs H Q _ => ∃ (a : Addr) (ds : List Int) (m : Int) (x : V), vs = [.ref a, .int m, x] ∧ AskG K P1 H a ds m ∧ TabG H P2 ∧
  (((x = .non ∨ NotTup H x) ∧ ∀ H', Gr P1 P2 H H' → Q (.bl false) H') ∨
   (∃ (c : Addr) (v : Int) (y : V), x = .ref c ∧ SqT K H c [.int v, y] ∧
     ((∃ (e : Addr) (ns : List Int), y = .ref e ∧ SqT K H e (ns.map V.int) ∧ ns.length ≤ 1000 ∧
        ∀ H' b, Gr P1 P2 H H' → (b = true ↔ v = K06.best ds m (K06.lots ds.length) ∧ ns ∈ K06.lots ds.length ∧ (ns.length : Int) ≤ m ∧ K06.top ds ns = K06.best ds m (K06.lots ds.length)) → Q (.bl b) H') ∨
      (NotTup H y ∧ ∀ H', Gr P1 P2 H H' → Q (.bl false) H'))))
theorem ok_showsg {f : Addr} {fd : FuncData} (F : Fun K "shows_greatest_load" "shows_greatest_load" sShowsG f fd) (CM : Cal P w K mg base "need_most" 3 ["deputies", "many"] (spNeedMost K P1)) (CG : Cal P w K mg base "greatest_of" 6 ["deputies", "many"] (spGreatOf K))
    (CI : Cal P w K mg base "is_in" 1 ["value", "least", "most"] spIsIn) (CS : Cal P w K mg base "is_lot" 1 ["size", "value"] (spIsLot K P2)) (CO : Cal P w K mg base "load_of" 5 ["deputies", "lot"] (spLoadOf K)) (M : Names mg) : FnOk P w K mg base CX0 7 f fd ["deputies", "many", "value"] (spShowsG K P1 P2) := by
  refine F.ok scShowsG (fun vs H Q E h => ?_) (fun cdv A outer s H vs Q E hr h => ?_)
  · obtain ⟨a, ds, m, x, rfl, _⟩ := h
    rfl
  · obtain ⟨a, ds, m, x, rfl, k, t2, hq⟩ := h
    have hr3 := hr.mono (show 3 ≤ 6 by omega)
    have hr1 := hr.mono (show 1 ≤ 6 by omega)
    have hr5 := hr.mono (show 5 ≤ 6 by omega)
    refine ⟨_, pss_cons (ps_expr (pe_cal CM hr3 (by rfl) (pa_cons (pv 0) (pa_cons (pv 1) pa_nil)))) (pss_cons (ps_set (i := 3) scShowsG.nd rfl (Or.inl rfl) (pe_ix ix_tup (pe_cal CG hr (by rfl) (pa_cons (pv 0) (pa_cons (pv 1) pa_nil))) pe_int (fun _ _ => rfl)))
      (pss_cons (ps_if (PW.pt (pw_or (pt_not (pt_val (pe_callB call_isi (by rfl) M.isinstance (by decide +kernel) (pa_cons (pv 2) (pa_cons (pe_bltn (v := .ty "tuple") (by rfl) M.tuple (by decide +kernel) rfl) pa_nil)))))
          (pw_or (pt_cmpR op_ne (pe_callB call_len_seq (by rfl) M.len PySem.boot_len (pa_cons (pv 2) pa_nil)) pe_int (nomark _))
          (pw_or1 (pt_not (pt_val (pe_cal CI hr1 (by rfl) (pa_cons (pe_ix ix_tup (pv 2) pe_int (fun _ _ => rfl)) (pa_cons (pv 3) (pa_cons (pv 3) pa_nil)))))))))) (pss_one (ps_ret pe_bl)) pss_nil)
      (pss_cons (ps_if (PW.pt (pw_or (pt_not (pt_val (pe_cal CS hr1 (by rfl) (pa_cons (pe_callB call_len_seq (by rfl) M.len PySem.boot_len (pa_cons (pv 0) pa_nil)) (pa_cons (pe_ix ix_tup (pv 2) pe_int (fun _ _ => rfl)) pa_nil)))))
          (pw_or1 (pt_cmpR op_gt (pe_callB call_len_seq (by rfl) M.len PySem.boot_len (pa_cons (pe_ix ix_tup (pv 2) pe_int (fun _ _ => rfl)) pa_nil)) (pv 1) (nomark _))))) (pss_one (ps_ret pe_bl)) pss_nil)
      (pss_one (ps_ret (pe_cmpR op_eq (pe_cal CO hr5 (by rfl) (pa_cons (pv 0) (pa_cons (pe_ix ix_tup (pv 2) pe_int (fun _ _ => rfl)) pa_nil))) (pv 3) (nomark _))))))), ?_⟩
    have tb : Tb P1 P2 H := ⟨k.t, t2⟩
    refine ⟨_, rfl, _, rfl, a, ds, m, rfl, k.s, k.d, k.t, k.m0, k.m6, fun H1 v1 hH1 => ?_⟩
    refine ⟨_, rfl, _, rfl, a, ds, m, rfl, tbd_tup hH1 k.t k.s, k.d, k.m0, fun t b0 H2 g0 sm h1 _ _ _ _ => ?_⟩
    have g2 : Gr P1 P2 H H2 := (Gr.tab1 hH1).trans (Gr.same sm)
    have tb2 := g2.tb tb
    refine ⟨t, _, 0, _, rfl, rfl, h1, rfl, ?_⟩
    have notT : ∀ x, x = .non ∨ NotTup H x → ∃ t, TyX K H2 x (.type t) ∧ kitB t "tuple" = some false := by
      rintro x (rfl | h)
      · exact ⟨"NoneType", .base .non, by decide +kernel⟩
      · exact notTup_ty (notTup_gr g2 tb h)
    rcases hq with ⟨hx, q⟩ | ⟨c, v, y, rfl, hC, hy⟩
    · obtain ⟨ty, hty, hk⟩ := notT x hx
      exact ⟨x, rfl, x, .ty "tuple", .type ty, .type "tuple", false, rfl, .ty _, hty, kit_ty hk, false, rfl, iteT (iteT (q H2 g2))⟩
    · have hC2 := g2.tup tb hC
      refine ⟨.ref c, rfl, .ref c, .ty "tuple", .type "tuple", .type "tuple", true, rfl, .ty _, tyTup hC2, kit_ty (by decide +kernel), true, rfl, iteF ?_⟩
      refine ⟨.ref c, rfl, c, _, rfl, .inr hC2, rfl, false, ?_, iteF ?_⟩
      · show V.bl (!decide (V.int 2 = V.int 2)) = _
        rw [decide_eq_true rfl]
        rfl
      refine ⟨.ref c, rfl, c, _, 0, _, rfl, rfl, hC2, rfl, .int (K06.best ds m (K06.lots ds.length)), rfl, .int (K06.best ds m (K06.lots ds.length)), rfl, v, _, _, rfl, _, rfl, ?_⟩
      by_cases hv : v = K06.best ds m (K06.lots ds.length)
      · subst hv
        rw [decide_eq_true (Int.le_refl _)]
        refine iteF ⟨_, rfl, a, _, rfl, .inr (g2.tup tb k.s), .ref c, rfl, c, _, 1, _, rfl, rfl, hC2, rfl, (ds.length : Int), y, ?_, ?_⟩
        · rw [List.length_map]
          rfl
        rcases hy with ⟨e, ns, rfl, hE, hl, q⟩ | ⟨hy, q⟩
        · refine .inl ⟨e, _, rfl, g2.tup tb hE, (by rw [List.length_map]; exact hl), fun x hx => ?_, g2.t2 t2, fun b H3 hb hH3 => ⟨b, rfl, ?_⟩⟩
          · obtain ⟨i, _, rfl⟩ := List.mem_map.mp hx
            exact .inl ⟨i, rfl⟩
          have g3 : Gr P1 P2 H H3 := g2.trans (Gr.tab2 hH3)
          have hl2 : b = true ↔ ns ∈ K06.lots ds.length := by
            rw [hb, K06.lots_iff]
            exact ⟨fun ⟨z, e, h⟩ => by rw [map_int_inj e]; exact h, fun h => ⟨ns, rfl, h⟩⟩
          cases b with
          | false => exact iteT (q H3 false g3 ⟨(fun z => by cases z), fun z => absurd (hl2.mpr z.2.1) (by decide)⟩)
          | true =>
            refine iteF ⟨.ref c, rfl, c, _, 1, _, rfl, rfl, g3.tup tb hC, rfl, e, _, rfl, .inr (g3.tup tb hE), .int m, rfl, _, m, rfl, rfl, _, rfl, ?_⟩
            rw [List.length_map]
            by_cases hm : m < (ns.length : Int)
            · rw [decide_eq_true hm]
              exact iteT (q H3 false g3 ⟨(fun z => by cases z), fun z => absurd z.2.2.1 (by omega)⟩)
            · rw [decide_eq_false hm]
              refine iteF ⟨.ref a, rfl, .ref c, rfl, c, _, 1, _, rfl, rfl, g3.tup tb hC, rfl, a, e, ds, ns, rfl, g3.tup tb k.s, g3.tup tb hE, k.d, fun H4 sm4 => ?_⟩
              refine ⟨_, rfl, rfl, q H4 _ (g3.trans (Gr.same sm4)) ?_⟩
              rw [decide_eq_true_eq]
              exact ⟨fun z => ⟨rfl, hl2.mp rfl, by omega, V.int.inj z⟩, fun z => by rw [z.2.2.2]⟩
        · obtain ⟨ty, hty, hk⟩ := notT y (.inr hy)
          exact .inr ⟨ty, hty, hk, false, rfl, iteT (q H2 g2)⟩
      · have hbf : (decide (K06.best ds m (K06.lots ds.length) ≤ v) && decide (v ≤ K06.best ds m (K06.lots ds.length))) = false := by
          rw [← Bool.decide_and]
          exact decide_eq_false fun z => hv (by omega)
        rw [hbf]
        refine iteT ?_
        rcases hy with ⟨e, ns, rfl, hE, hl, q⟩ | ⟨hy, q⟩
        · exact q H2 false g2 ⟨(fun z => by cases z), fun z => absurd z.1 hv⟩
        · exact q H2 g2
end
end K06P

set_option maxRecDepth 100000
set_option maxHeartbeats 4000000
/-! The law's own reader of the script. -/
namespace K06P
open PySem PySem.Spec PyProof.Rows L2 GxR
section
variable {P : Program} {w : World} {K : PySem.W.Frag} {mg : Str → Option Value} {base : Heap} {P1 P2 : Addr}
abbrev rowV (sc : Addr) (i s c : Int) : List V := [.ref sc, .int i, .int s, .int c]
/-- the law's row at r, the script's cells ns -/
structure Row (K : PySem.W.Frag) (H : Hp) (r sc : Addr) (ns : List Int) (i s c : Int) : Prop where
  at_ : H r = some (.lst (rowV sc i s c))
  sq : SqL K H sc (ns.map V.int)
  i0 : 0 ≤ i
  s0 : 0 ≤ s
  s1 : s < 2147483648
theorem row_upd {H : Hp} {r sc : Addr} {ns : List Int} {i s c : Int} (R : Row K H r sc ns i s c) {i' s' c' : Int} (h0 : 0 ≤ i') (h1 : 0 ≤ s') (h2 : s' < 2147483648) : Row K (upd H r (.lst (rowV sc i' s' c'))) r sc ns i' s' c' := by
  refine ⟨upd_same .., ?_, h0, h1, h2⟩
  rcases R.sq with (h | ⟨o, h⟩) | h
  · refine .inl (.inl ((upd_ne fun z => ?_).trans h))
    rw [z, R.at_] at h
    have e := Option.some.inj h
    cases ns with
    | nil => cases e
    | cons x r => cases e
  · exact .inl (.inr ⟨o, (upd_ne (by intro z; rw [z, R.at_] at h; cases h)).trans h⟩)
  · exact .inr h
def spTaken (K : PySem.W.Frag) : Sp := fun vs H Q _ => ∃ (r sc : Addr) (ns : List Int) (i s c m : Int), vs = [.ref r, .int m] ∧ Row K H r sc ns i s c ∧ 0 < m ∧ m < 1000 ∧ ns.length ≤ sizeLine ∧
  ∀ (i' s' c' v : Int), Row K (upd H r (.lst (rowV sc i' s' c'))) r sc ns i' s' c' → 0 ≤ v → v < m → Q (.int v) (upd H r (.lst (rowV sc i' s' c')))
theorem ok_taken {f : Addr} {fd : FuncData} {k : Nat} (F : Fun K "_law_taken" "_law_taken" sTaken f fd) (M : Names mg) : FnOk P w K mg base CX0 (k + 1) f fd ["_law_row", "_law_many"] (spTaken K) := by
  refine F.ok scTaken (fun vs H Q E h => ?_) (fun cdv A outer s H vs Q E hr h => ?_)
  · obtain ⟨r, sc, ns, i, s, c, m, rfl, _⟩ := h
    rfl
  · obtain ⟨r, sc, ns, i, s, c, m, rfl, R, hm, hm2, hln, q⟩ := h
    refine ⟨_, pss_cons (ps_if (pt_cmpR op_gt (pe_ix ix_list (pv 0) pe_int (fun _ _ => rfl)) pe_int (nomark _))
        (pss_cons (ps_set (i := 2) scTaken.nd rfl (Or.inl rfl) (pe_op op_mod (pe_callTy call_int1 (by rfl) M.int (by decide +kernel) (pa_cons (pe_ix ix_list (pv 0) pe_int (fun _ _ => rfl)) pa_nil)) (pv 1)))
        (pss_cons (ps_asg (pe_op op_fdiv (pe_ix ix_list (pv 0) pe_int (fun _ _ => rfl)) (pv 1)) (pg_sub (pv 0) pe_int set_list))
        (pss_one (ps_ret (pv 2))))) pss_nil)
      (pss_cons (ps_asg (pe_op op_add (pe_ix ix_list (pv 0) pe_int (fun _ _ => rfl)) pe_int) (pg_sub (pv 0) pe_int set_list))
      (pss_cons (ps_if (pt_cmpR op_gt (pe_ix ix_list (pv 0) pe_int (fun _ _ => rfl)) (pe_callB call_len_seq (by rfl) M.len PySem.boot_len (pa_cons (pe_ix ix_list (pv 0) pe_int (fun _ _ => rfl)) pa_nil)) (nomark _))
        (pss_cons (ps_asg (pe_op op_mod (pe_callTy call_int1 (by rfl) M.int (by decide +kernel) (pa_cons (pe_op op_add (pe_op op_mul (pe_ix ix_list (pv 0) pe_int (fun _ _ => rfl)) pe_int) pe_int) pa_nil)) pe_int) (pg_sub (pv 0) pe_int set_list))
        (pss_one (ps_ret (pe_op op_mod (pe_callTy call_int1 (by rfl) M.int (by decide +kernel) (pa_cons (pe_op op_fdiv (pe_ix ix_list (pv 0) pe_int (fun _ _ => rfl)) pe_int) pa_nil)) (pv 1))))) pss_nil)
      (pss_cons (ps_set (i := 3) scTaken.nd rfl (Or.inl rfl) (pe_ix ix_list (pe_ix ix_list (pv 0) pe_int (fun _ _ => rfl)) (pe_op op_sub (pe_ix ix_list (pv 0) pe_int (fun _ _ => rfl)) pe_int) (fun _ _ => rfl)))
      (pss_cons (ps_asg (pe_op op_mod (pe_callTy call_int1 (by rfl) M.int (by decide +kernel) (pa_cons (pe_op op_add (pe_op op_add (pe_op op_mul (pe_ix ix_list (pv 0) pe_int (fun _ _ => rfl)) pe_int) (pv 3)) pe_int) pa_nil)) pe_int) (pg_sub (pv 0) pe_int set_list))
      (pss_cons (ps_if (pt_cmpR op_ge (pv 3) (pe_op op_pow pe_int pe_int) (nomark _)) (pss_one (ps_asg (pe_op op_fdiv (pv 3) (pv 1)) (pg_sub (pv 0) pe_int set_list))) pss_nil)
      (pss_one (ps_ret (pe_op op_mod (pe_callTy call_int1 (by rfl) M.int (by decide +kernel) (pa_cons (pv 3) pa_nil)) (pv 1))))))))), ?_⟩
    have e := R.at_
    have hs0 := R.s0
    have hs1 := R.s1
    have rng : ∀ x : Int, 0 ≤ x % m ∧ x % m < m := fun x => ⟨Int.emod_nonneg _ (by omega), Int.emod_lt_of_pos _ hm⟩
    have rng2 : ∀ x : Int, 0 ≤ x % 2147483647 ∧ x % 2147483647 < 2147483648 := fun x => ⟨Int.emod_nonneg _ (by decide), by have := Int.emod_lt_of_pos x (show (0 : Int) < 2147483647 by decide); omega⟩
    refine ⟨_, rfl, r, _, 3, _, rfl, rfl, SqL.of e, rfl, c, 0, rfl, rfl, _, rfl, ?_⟩
    by_cases h1 : (0 : Int) < c
    · rw [decide_eq_true h1]
      refine iteT ⟨_, rfl, r, _, 3, _, rfl, rfl, SqL.of e, rfl, .inl ⟨c, rfl, _, rfl, c, m, rfl, rfl, hm, ?_⟩⟩
      refine ⟨_, rfl, r, _, 3, _, rfl, rfl, SqL.of e, rfl, _, rfl, c, m, rfl, rfl, ⟨hm, by omega⟩, _, rfl, r, _, 3, 3, rfl, rfl, e, rfl, ?_⟩
      exact ⟨_, rfl, q i s _ _ (row_upd R R.i0 hs0 hs1) (rng c).1 (rng c).2⟩
    · rw [decide_eq_false h1]
      refine iteF ⟨_, rfl, r, _, 1, _, rfl, rfl, SqL.of e, rfl, i, 1, rfl, rfl, _, rfl, r, _, 1, 1, rfl, rfl, e, rfl, ?_⟩
      have hi0 := R.i0
      have R1 := row_upd R (i' := i + 1) (c' := c) (by omega) hs0 hs1
      have e1 := R1.at_
      have hlen : ((ns.map V.int).length : Int) = ns.length := by rw [List.length_map]
      refine ⟨_, rfl, r, _, 1, _, rfl, rfl, SqL.of (xs := rowV sc (i + 1) s c) e1, rfl, _, rfl, r, _, 0, _, rfl, rfl, SqL.of (xs := rowV sc (i + 1) s c) e1, rfl, sc, _, rfl, .inl R1.sq, i + 1, _, rfl, rfl, _, rfl, ?_⟩
      rw [hlen]
      by_cases h2 : (ns.length : Int) < i + 1
      · rw [decide_eq_true h2]
        refine iteT ⟨_, rfl, r, _, 2, _, rfl, rfl, SqL.of (xs := rowV sc (i + 1) s c) e1, rfl, s, 48271, rfl, rfl, .inr ⟨by decide, by decide⟩, _, 11, rfl, rfl, .inl ⟨_, rfl, _, 2147483647, rfl, rfl, (by show (0 : Int) < 2147483647; decide), ?_⟩⟩
        refine ⟨_, rfl, r, _, 2, 2, rfl, rfl, e1, rfl, ?_⟩
        have R2 := row_upd R1 (i' := i + 1) (s' := (s * 48271 + 11) % 2147483647) (c' := c) (by omega) (rng2 _).1 (rng2 _).2
        rw [upd_upd] at R2
        rw [upd_upd]
        refine ⟨_, rfl, r, _, 2, _, rfl, rfl, SqL.of (xs := rowV sc (i + 1) _ c) R2.at_, rfl, _, 7, rfl, rfl, ⟨by decide, by decide⟩, .inl ⟨_, rfl, _, rfl, _, m, rfl, rfl, hm, ?_⟩⟩
        exact q _ _ _ _ R2 (rng _).1 (rng _).2
      · rw [decide_eq_false h2]
        obtain ⟨x, hx⟩ : ∃ x, ns[i.toNat]? = some x := ⟨_, List.getElem?_eq_getElem (show i.toNat < ns.length by omega)⟩
        have ha : atI (ns.map V.int) (i + 1 - 1) = some (V.int x) := by
          rw [show i + 1 - 1 = ((i.toNat : Nat) : Int) by omega]
          refine atI_nat ?_
          rw [List.getElem?_map, hx]
          rfl
        refine iteF ⟨_, rfl, r, _, 0, _, rfl, rfl, SqL.of (xs := rowV sc (i + 1) s c) e1, rfl, _, rfl, r, _, 1, _, rfl, rfl, SqL.of (xs := rowV sc (i + 1) s c) e1, rfl, i + 1, 1, rfl, rfl, sc, _, i + 1 - 1, _, rfl, rfl, R1.sq, ha, ?_⟩
        refine ⟨_, rfl, r, _, 2, _, rfl, rfl, SqL.of (xs := rowV sc (i + 1) s c) e1, rfl, s, 48271, rfl, rfl, .inr ⟨by decide, by decide⟩, .int x, rfl, _, x, rfl, rfl, _, 11, rfl, rfl, .inl ⟨_, rfl, _, 2147483647, rfl, rfl, (by show (0 : Int) < 2147483647; decide), ?_⟩⟩
        refine ⟨_, rfl, r, _, 2, 2, rfl, rfl, e1, rfl, ?_⟩
        have R2 := row_upd R1 (i' := i + 1) (s' := (s * 48271 + x + 11) % 2147483647) (c' := c) (by omega) (rng2 _).1 (rng2 _).2
        rw [upd_upd] at R2
        rw [upd_upd]
        refine ⟨_, rfl, 10, 18, rfl, rfl, ⟨by decide, by decide, by decide⟩, x, _, rfl, rfl, _, rfl, ?_⟩
        refine ite2 (fun _ => ?_) (fun _ => ?_)
        · refine ⟨_, rfl, _, rfl, x, m, rfl, rfl, ⟨hm, by omega⟩, _, rfl, r, _, 3, 3, rfl, rfl, R2.at_, rfl, ?_⟩
          have R3 := row_upd R2 (i' := i + 1) (s' := (s * 48271 + x + 11) % 2147483647) (c' := x / m) (by omega) (rng2 _).1 (rng2 _).2
          rw [upd_upd] at R3
          rw [upd_upd]
          exact ⟨_, rfl, .inl ⟨_, rfl, _, rfl, x, m, rfl, rfl, hm, q _ _ _ _ R3 (rng _).1 (rng _).2⟩⟩
        · exact ⟨_, rfl, .inl ⟨_, rfl, _, rfl, x, m, rfl, rfl, hm, q _ _ _ _ R2 (rng _).1 (rng _).2⟩⟩
end
end K06P

set_option maxRecDepth 100000
set_option maxHeartbeats 4000000
/-! The law's own deputies. -/
namespace K06P
open PySem PySem.Spec PyProof.Rows L2 GxR
section
variable {P : Program} {w : World} {K : PySem.W.Frag} {mg : Str → Option Value} {base : Heap} {P1 P2 : Addr}
/-- all but the row stays -/
def Sm (r : Addr) (H H' : Hp) : Prop := ∀ b o, b ≠ r → H b = some o → H' b = some o
theorem sm_same {r : Addr} {H H' : Hp} (s : Same H H') : Sm r H H' := fun b o _ e => s b o e
theorem sm_trans {r : Addr} {H H1 H2 : Hp} (x : Sm r H H1) (y : Sm r H1 H2) : Sm r H H2 := fun b o n e => y b o n (x b o n e)
theorem sm_row {r : Addr} {H : Hp} {o : HO} : Sm r H (upd H r o) := fun b o' n e => (upd_ne n).trans e
theorem sm_upd {r l : Addr} {H H1 : Hp} {o : HO} (x : Sm r H H1) (h : H l = none) : Sm r H (upd H1 l o) := fun b o' n e => (upd_ne (ne_of_none e h)).trans (x b o' n e)
theorem row_sq {H H' : Hp} {r sc : Addr} {ns : List Int} {i s c : Int} (R : Row K H r sc ns i s c) (h : Sm r H H') : SqL K H' sc (ns.map V.int) := by
  rcases R.sq with (e | ⟨o, e⟩) | e
  · refine .inl (.inl (h _ _ (fun z => ?_) e))
    rw [z, R.at_] at e
    have e' := Option.some.inj e
    cases ns with
    | nil => cases e'
    | cons x r => cases e'
  · exact .inl (.inr ⟨o, h _ _ (by intro z; rw [z, R.at_] at e; cases e) e⟩)
  · exact .inr e
theorem sm_tab {H H' : Hp} {r P : Addr} {xs : List V} (h : Sm r H H') (e : H r = some (.lst xs)) (t : TabG H P) : TabG H' P := by
  obtain ⟨ps, e1, q⟩ := t
  exact ⟨ps, h _ _ (by intro z; rw [z, e] at e1; cases e1) e1, q⟩
def spLDep (K : PySem.W.Frag) : Sp := fun vs H Q _ => ∃ (r sc : Addr) (ns : List Int) (i s c : Int) (n : Nat), vs = [.ref r, .int (n : Int)] ∧ Row K H r sc ns i s c ∧ 1 ≤ n ∧ n ≤ 5 ∧ ns.length ≤ sizeLine ∧
  ∀ (t : Addr) (H' : Hp) (ds : List Int) (i' s' c' : Int), SqT K H' t (ds.map V.int) → K06.Deps ds → ds.length = n → Row K H' r sc ns i' s' c' → Sm r H H' → Q (.ref t) H'
theorem ok_ldep {f : Addr} {fd : FuncData} (F : Fun K "_law_deputies" "_law_deputies" sLDep f fd) (CT : Cal P w K mg base "_law_taken" 1 ["_law_row", "_law_many"] (spTaken K)) (M : Names mg) : FnOk P w K mg base CX0 2 f fd ["_law_row", "_law_size"] (spLDep K) := by
  refine F.ok scLDep (fun vs H Q E h => ?_) (fun cdv A outer s H vs Q E hr h => ?_)
  · obtain ⟨r, sc, ns, i, s, c, n, rfl, _⟩ := h
    rfl
  · obtain ⟨r, sc, ns, i, s, c, n, rfl, R, hn1, hn5, hln, q⟩ := h
    refine ⟨_, pss_cons (ps_set (i := 2) scLDep.nd rfl (Or.inl rfl) (pe_lst pa_nil)) (pss_cons (ps_for PassesOwn.never rfl (pi_range1 (by rfl) M.range (pa_cons (pv 1) pa_nil)) (pg_name (i := 3) scLDep.nd rfl (Or.inl rfl))
      (pss_cons (ps_set (i := 4) scLDep.nd rfl (Or.inl rfl) (pe_op op_sub (pe_cal CT hr (by rfl) (pa_cons (pv 0) (pa_cons (pv 1) pa_nil))) pe_int))
      (pss_one (ps_expr (pe_bm PySem.F.plainAttrs_list PySem.F.slot_list_append PySem.F.type_list_append mt_append (pv 2) (pa_cons (pe_op op_add (pv 4) (pe_callTy call_int1 (by rfl) M.int (by decide +kernel) (pa_cons (pe_cmpR op_ge (pv 4) (pv 3) (nomark _)) pa_nil))) pa_nil))))))
      (pss_one (ps_ret (pe_tupleOf (by rfl) M.tuple (pv 2))))), ?_⟩
    have b62 := len62 (n := n) (by omega)
    refine ⟨by decide, fun l hl => ⟨_, rfl, (n : Int), rfl, b62.1, b62.2, ?_⟩⟩
    have hlr : l ≠ r := fun z => by rw [z, R.at_] at hl; cases hl
    refine for_range (n := ((n : Int)).toNat) (fun j σ H' => ∃ (x y : Option V) (ds : List Int) (i' s' c' : Int), σ = [some (.ref r), some (.int n), some (.ref l), x, y] ∧ H' l = some (.lst (ds.map V.int)) ∧ Row K H' r sc ns i' s' c' ∧ Sm r H H' ∧ ds.length = j ∧ ∀ (i : Nat) (d : Int), ds[i]? = some d → -1 ≤ d ∧ d < n ∧ d ≠ i)
      ⟨_, _, [], i, s, c, rfl, upd_same .., ⟨(upd_ne (fun z => hlr z.symm)).trans R.at_, row_sq R (sm_same (same_upd hl)), R.i0, R.s0, R.s1⟩, sm_same (same_upd hl), rfl, fun i d h => by simp at h⟩ (fun j σ H' hj h => ?_) (fun σ H' h => ?_)
    · obtain ⟨x, y, ds, i', s', c', rfl, e, R', sm, hlen, hds⟩ := h
      refine ⟨_, rfl, _, rfl, r, sc, ns, i', s', c', n, rfl, R', by omega, by omega, hln, fun i2 s2 c2 v R2 hv0 hv1 => ?_⟩
      refine ⟨v, 1, rfl, rfl, ?_⟩
      have e2 : upd H' r (.lst (rowV sc i2 s2 c2)) l = some (.lst (ds.map V.int)) := (upd_ne hlr).trans e
      refine ⟨_, rfl, .inl ⟨rfl, _, SqL.of e2⟩, _, rfl, _, rfl, _, rfl, v - 1, (0 + (j : Nat) : Int), rfl, rfl, .inr ⟨_, rfl, v - 1, _, rfl, rfl, ?_⟩⟩
      refine ⟨l, _, _, rfl, rfl, e2, line1000 (by rw [List.length_map]; omega), ?_⟩
      have sm2 : Sm r H (upd (upd H' r (.lst (rowV sc i2 s2 c2))) l (.lst (ds.map V.int ++ [.int (v - 1 + if decide ((0 + (j : Nat) : Int) ≤ v - 1) = true then 1 else 0)]))) := sm_upd (sm_trans sm sm_row) hl
      refine ⟨_, _, ds ++ [v - 1 + if decide ((0 + (j : Nat) : Int) ≤ v - 1) = true then 1 else 0], i2, s2, c2, rfl, ?_, ⟨(upd_ne (fun z => hlr z.symm)).trans R2.at_, row_sq R sm2, R2.i0, R2.s0, R2.s1⟩, sm2, ?_, ?_⟩
      · rw [upd_same, List.map_append]
        rfl
      · rw [List.length_append, hlen]
        rfl
      · intro i d hd
        by_cases hi : i < ds.length
        · rw [List.getElem?_append_left hi] at hd
          exact hds i d hd
        · rw [List.getElem?_append_right (by omega)] at hd
          have hi2 : i - ds.length = 0 := by
            by_cases z : i - ds.length = 0
            · exact z
            · rw [List.getElem?_eq_none (by simp only [List.length_cons, List.length_nil]; omega)] at hd
              cases hd
          rw [hi2] at hd
          have hd' : (v - 1 + if decide ((0 + (j : Nat) : Int) ≤ v - 1) = true then 1 else 0) = d := by simpa using hd
          have hij : i = j := by omega
          by_cases hc : (0 + (j : Nat) : Int) ≤ v - 1
          · rw [decide_eq_true hc, if_pos rfl] at hd'
            omega
          · rw [decide_eq_false hc, if_neg (by decide)] at hd'
            omega
    · obtain ⟨x, y, ds, i', s', c', rfl, e, R', sm, hlen, hds⟩ := h
      refine ⟨_, rfl, .inl ⟨l, _, rfl, SqL.of e, fun t ht => ?_⟩⟩
      have hlen' : ds.length = n := by omega
      have sm2 : Sm r H (upd H' t (.tup (ds.map V.int))) := sm_trans sm (sm_same (same_upd ht))
      refine q t _ ds i' s' c' (SqT.of (upd_same ..)) ⟨by omega, by omega, fun i d h => ?_⟩ hlen' ⟨(upd_ne (fun z => by rw [← z, R'.at_] at ht; cases ht)).trans R'.at_, row_sq R sm2, R'.i0, R'.s0, R'.s1⟩ sm2
      rw [hlen']
      exact hds i d h
end
end K06P

set_option maxRecDepth 100000
set_option maxHeartbeats 4000000
/-! The law's own comparison. -/
namespace K06P
open PySem PySem.Spec PyProof.Rows L2 GxR
section
variable {P : Program} {w : World} {K : PySem.W.Frag} {mg : Str → Option Value} {base : Heap} {P1 P2 : Addr}
/-- two scalars that are alike -/
def spScal : Sp := fun vs H Q _ => ∃ x : V, vs = [x, x] ∧ (x = .non ∨ (∃ i, x = .int i) ∨ ∃ b, x = .bl b) ∧ ∀ H', Same H H' → Q (.bl true) H'
/-- two scalars or two tuples of ints that are alike -/
def spAlike (K : PySem.W.Frag) : Sp := fun vs H Q _ => ∃ (a b : Addr) (g : List Int), vs = [.ref a, .ref b] ∧ SqT K H a (g.map V.int) ∧ SqT K H b (g.map V.int) ∧ g.length ≤ 1000 ∧ ∀ H', Same H H' → Q (.bl true) H'
theorem kTL_no {t : String} (h1 : kitB t "tuple" = some false) (h2 : kitB t "list" = some false) : PySem.W.kitAny K (.type t) [.type "tuple", .type "list"] = some false :=
  kitAny_cons (kit_ty h1) (fun _ => kitAny_cons (kit_ty h2) (fun _ => kitAny_nil) (fun z => by cases z)) (fun z => by cases z)
theorem kTL_tup : PySem.W.kitAny K (.type "tuple") [.type "tuple", .type "list"] = some true :=
  kitAny_cons (b := true) (r := true) (kit_ty (by decide +kernel)) (fun z => by cases z) (fun _ => rfl)
theorem clsTL : Paired ClsV [.ty "tuple", .ty "list"] [.type "tuple", .type "list"] := .cons (.ty _) (.cons (.ty _) .nil)
theorem ok_alike0 {f : Addr} {fd : FuncData} {k : Nat} (F : Fun K "_law_alike" "_law_alike" sAlike f fd) (M : Names mg) : FnOk P w K mg base CX0 (k + 1) f fd ["_law_found", "_law_due"] spScal := by
  refine F.ok scAlike (fun vs H Q E h => ?_) (fun cdv A outer s H vs Q E hr h => ?_)
  · obtain ⟨x, rfl, _⟩ := h
    rfl
  · obtain ⟨x, rfl, hx, q⟩ := h
    refine ⟨_, (pss_cons (ps_if (pt_val (pe_callB call_isiT (by rfl) M.isinstance (by decide +kernel) (pa_cons (pv 1) (pa_cons (pe_tup (pa_cons (pe_bltn (v := .ty "tuple") (by rfl) M.tuple (by decide +kernel) rfl) (pa_cons (pe_bltn (v := .ty "list") (by rfl) M.list (by decide +kernel) rfl) pa_nil))) pa_nil)))) pss_never pss_nil) (pss_cons (ps_if (PW.pt (pw_or (pt_cmpR op_isN (pv 1) pe_non (nomark _)) (pw_or1 (pt_val (pe_callB call_isi (by rfl) M.isinstance (by decide +kernel) (pa_cons (pv 1) (pa_cons (pe_bltn (v := .ty "str") (by rfl) M.str (by decide +kernel) rfl) pa_nil))))))) (pss_one (ps_ret (pe_and (pe_cmpR op_eq (pv 0) (pv 1) (nomark _)) (pe_one (pe_cmpR op_eq (pe_callB call_isi (by rfl) M.isinstance (by decide +kernel) (pa_cons (pv 0) (pa_cons (pe_bltn (v := .ty "str") (by rfl) M.str (by decide +kernel) rfl) pa_nil))) (pe_callB call_isi (by rfl) M.isinstance (by decide +kernel) (pa_cons (pv 1) (pa_cons (pe_bltn (v := .ty "str") (by rfl) M.str (by decide +kernel) rfl) pa_nil))) (nomark _)))))) pss_nil) (pss_one (ps_ret (pe_and (pe_callB call_isi (by rfl) M.isinstance (by decide +kernel) (pa_cons (pv 0) (pa_cons (pe_bltn (v := .ty "int") (by rfl) M.int (by decide +kernel) rfl) pa_nil))) (pe_and (pe_cmpR op_eq (pe_callB call_isi (by rfl) M.isinstance (by decide +kernel) (pa_cons (pv 0) (pa_cons (pe_bltn (v := .ty "bool") (by rfl) M.bool (by decide +kernel) rfl) pa_nil))) (pe_callB call_isi (by rfl) M.isinstance (by decide +kernel) (pa_cons (pv 1) (pa_cons (pe_bltn (v := .ty "bool") (by rfl) M.bool (by decide +kernel) rfl) pa_nil))) (nomark _)) (pe_one (pe_cmpR op_eq (pv 0) (pv 1) (nomark _))))))))), ?_⟩
    refine ⟨x, rfl, (show 2 ≤ sizeLine by decide), fun T hT => ?_⟩
    have sT : Same H (upd H T (.tup [.ty "tuple", .ty "list"])) := same_upd hT
    rcases hx with rfl | ⟨i, rfl⟩ | ⟨b, rfl⟩
    · refine ⟨.non, T, _, .type "NoneType", _, false, rfl, upd_same .., clsTL, .base .non, kTL_no (by decide +kernel) (by decide +kernel), false, rfl, iteF ?_⟩
      refine ⟨.non, rfl, rfl, true, ?_, iteT (iteT ?_)⟩
      · rw [decide_eq_true rfl]
      refine ⟨.non, rfl, .non, rfl, rfl, true, ?_, iteT ?_⟩
      · rw [decide_eq_true rfl]
      refine ⟨.non, rfl, .non, .ty "str", .type "NoneType", .type "str", false, rfl, .ty _, .base .non, kit_ty (by decide +kernel), ?_⟩
      refine ⟨.non, rfl, .non, .ty "str", .type "NoneType", .type "str", false, rfl, .ty _, .base .non, kit_ty (by decide +kernel), rfl, ?_⟩
      rw [decide_eq_true rfl]
      exact q _ sT
    · refine ⟨.int i, T, _, .type "int", _, false, rfl, upd_same .., clsTL, .base (.int _), kTL_no (by decide +kernel) (by decide +kernel), false, rfl, iteF ?_⟩
      refine ⟨.int i, rfl, rfl, false, ?_, iteF ⟨.int i, rfl, .int i, .ty "str", .type "int", .type "str", false, rfl, .ty _, .base (.int _), kit_ty (by decide +kernel), false, rfl, iteF ?_⟩⟩
      · rw [decide_eq_false (show ¬ V.int i = .non from fun z => by cases z)]
      refine ⟨.int i, rfl, .int i, .ty "int", .type "int", .type "int", true, rfl, .ty _, .base (.int _), kit_ty (by decide +kernel), true, rfl, iteT ?_⟩
      refine ⟨.int i, rfl, .int i, .ty "bool", .type "int", .type "bool", false, rfl, .ty _, .base (.int _), kit_ty (by decide +kernel), ?_⟩
      refine ⟨.int i, rfl, .int i, .ty "bool", .type "int", .type "bool", false, rfl, .ty _, .base (.int _), kit_ty (by decide +kernel), rfl, true, ?_, iteT ?_⟩
      · rw [decide_eq_true rfl]
      refine ⟨.int i, rfl, .int i, rfl, rfl, ?_⟩
      rw [decide_eq_true rfl]
      exact q _ sT
    · refine ⟨.bl b, T, _, .type "bool", _, false, rfl, upd_same .., clsTL, .base (.bl _), kTL_no (by decide +kernel) (by decide +kernel), false, rfl, iteF ?_⟩
      refine ⟨.bl b, rfl, rfl, false, ?_, iteF ⟨.bl b, rfl, .bl b, .ty "str", .type "bool", .type "str", false, rfl, .ty _, .base (.bl _), kit_ty (by decide +kernel), false, rfl, iteF ?_⟩⟩
      · rw [decide_eq_false (show ¬ V.bl b = .non from fun z => by cases z)]
      refine ⟨.bl b, rfl, .bl b, .ty "int", .type "bool", .type "int", true, rfl, .ty _, .base (.bl _), kit_ty (by decide +kernel), true, rfl, iteT ?_⟩
      refine ⟨.bl b, rfl, .bl b, .ty "bool", .type "bool", .type "bool", true, rfl, .ty _, .base (.bl _), kit_ty (by decide +kernel), ?_⟩
      refine ⟨.bl b, rfl, .bl b, .ty "bool", .type "bool", .type "bool", true, rfl, .ty _, .base (.bl _), kit_ty (by decide +kernel), rfl, true, ?_, iteT ?_⟩
      · rw [decide_eq_true rfl]
      refine ⟨.bl b, rfl, .bl b, rfl, rfl, ?_⟩
      rw [decide_eq_true rfl]
      exact q _ sT
theorem ok_alike1 {f : Addr} {fd : FuncData} (F : Fun K "_law_alike" "_law_alike" sAlike f fd) (CA : Cal P w K mg base "_law_alike" 1 ["_law_found", "_law_due"] spScal) (M : Names mg) : FnOk P w K mg base CX0 2 f fd ["_law_found", "_law_due"] (spAlike K) := by
  refine F.ok scAlike (fun vs H Q E h => ?_) (fun cdv A outer s H vs Q E hr h => ?_)
  · obtain ⟨a, b, g, rfl, _⟩ := h
    rfl
  · obtain ⟨a, b, g, rfl, hA, hB, hl, q⟩ := h
    refine ⟨_, (pss_cons (ps_if (pt_val (pe_callB call_isiT (by rfl) M.isinstance (by decide +kernel) (pa_cons (pv 1) (pa_cons (pe_tup (pa_cons (pe_bltn (v := .ty "tuple") (by rfl) M.tuple (by decide +kernel) rfl) (pa_cons (pe_bltn (v := .ty "list") (by rfl) M.list (by decide +kernel) rfl) pa_nil))) pa_nil)))) (pss_cons (ps_if (PW.pt (pw_or (pt_not (pt_val (pe_callB call_isiT (by rfl) M.isinstance (by decide +kernel) (pa_cons (pv 0) (pa_cons (pe_tup (pa_cons (pe_bltn (v := .ty "tuple") (by rfl) M.tuple (by decide +kernel) rfl) (pa_cons (pe_bltn (v := .ty "list") (by rfl) M.list (by decide +kernel) rfl) pa_nil))) pa_nil))))) (pw_or1 (pt_cmpR op_ne (pe_callB call_isi (by rfl) M.isinstance (by decide +kernel) (pa_cons (pv 0) (pa_cons (pe_bltn (v := .ty "list") (by rfl) M.list (by decide +kernel) rfl) pa_nil))) (pe_callB call_isi (by rfl) M.isinstance (by decide +kernel) (pa_cons (pv 1) (pa_cons (pe_bltn (v := .ty "list") (by rfl) M.list (by decide +kernel) rfl) pa_nil))) (nomark _))))) (pss_one (ps_ret pe_bl)) pss_nil)
      (pss_cons (ps_if (pt_cmpR op_ne (pe_callB call_len_seq (by rfl) M.len PySem.boot_len (pa_cons (pv 0) pa_nil)) (pe_callB call_len_seq (by rfl) M.len PySem.boot_len (pa_cons (pv 1) pa_nil)) (nomark _)) (pss_one (ps_ret pe_bl)) pss_nil)
      (pss_one (ps_ret (pe_cmpR (op_eqD (hu64 hr)) (pe_lc (own := [("_law_k", 2)]) (g := gName 2) (tt := tNot (tB (tCall (spScal) [] E0 (tCons (tOp (rIxT K) (tVar 0) (tVar 2)) (tCons (tOp (rIxT K) (tVar 1) (tVar 2)) tNil))))) (te := tVar 2) rfl scAlike.nd (pi_range1 (by rfl) M.range (pa_cons (pe_callB call_len_seq (by rfl) M.len PySem.boot_len (pa_cons (pv 1) pa_nil)) pa_nil))
        (blkOk_by (N := ["_law_found", "_law_due", "_law_k"]) (sc := defScope sAlike) (by decide +kernel)) (fun _ _ _ _ _ => pg_name (i := 2) scAlike.nd rfl (Or.inl rfl)) (fun _ _ _ _ _ => pts_one (pt_not (pt_val (pe_cal CA hr (by rfl) (pa_cons (pe_ix ix_tup (pv 0) (pv 2) (fun _ _ => rfl)) (pa_cons (pe_ix ix_tup (pv 1) (pv 2) (fun _ _ => rfl)) pa_nil))))))
        (fun _ _ _ _ _ => pv 2)) (pe_lst pa_nil) (nomark _)))))) pss_nil) pss_never), ?_⟩
    refine ⟨_, rfl, (show 2 ≤ sizeLine by decide), fun T hT => ?_⟩
    have sT : Same H (upd H T (.tup [.ty "tuple", .ty "list"])) := same_upd hT
    have hA1 := Same.tup sT hA
    have hB1 := Same.tup sT hB
    refine ⟨.ref b, T, _, .type "tuple", _, true, rfl, upd_same .., clsTL, tyTup hB1, kTL_tup, true, rfl, iteT ?_⟩
    refine ⟨_, rfl, (show 2 ≤ sizeLine by decide), fun T2 hT2 => ?_⟩
    have s2 := Same.trans' sT (same_upd (o := .tup [.ty "tuple", .ty "list"]) hT2)
    have hA2 := Same.tup s2 hA
    have hB2 := Same.tup s2 hB
    refine ⟨.ref a, T2, _, .type "tuple", _, true, rfl, upd_same .., clsTL, tyTup hA2, kTL_tup, true, rfl, iteF ?_⟩
    refine ⟨_, rfl, .ref a, .ty "list", .type "tuple", .type "list", false, rfl, .ty _, tyTup hA2, kit_ty (by decide +kernel), ?_⟩
    refine ⟨_, rfl, .ref b, .ty "list", .type "tuple", .type "list", false, rfl, .ty _, tyTup hB2, kit_ty (by decide +kernel), rfl, false, ?_, iteF ?_⟩
    · rw [decide_eq_true rfl]
      rfl
    refine ⟨_, rfl, a, _, rfl, .inr hA2, _, rfl, b, _, rfl, .inr hB2, rfl, false, ?_, iteF ?_⟩
    · rw [decide_eq_true rfl]
      rfl
    have b62 := len62 (n := g.length) hl
    refine ⟨_, rfl, b, _, rfl, .inr hB2, _, rfl, ?_, ?_, fun l hl2 => ?_⟩
    · rw [List.length_map]
      exact b62.1
    · rw [List.length_map]
      exact b62.2
    rw [List.length_map]
    refine lc_range (n := ((g.length : Int)).toNat) (fun i H' => Same (upd (upd H T (.tup [.ty "tuple", .ty "list"])) T2 (.tup [.ty "tuple", .ty "list"])) H' ∧ H' l = some (.lst [])) ⟨same_upd hl2, upd_same ..⟩ (fun i H' hi h => ?_) (fun H' h => ?_)
    · obtain ⟨sm, e⟩ := h
      obtain ⟨x, hx⟩ : ∃ x, g[i]? = some x := ⟨_, List.getElem?_eq_getElem (show i < g.length by omega)⟩
      have hx2 : atI (g.map V.int) (0 + (i : Nat) : Int) = some (V.int x) := by
        rw [show (0 + (i : Nat) : Int) = ((i : Nat) : Int) by omega]
        refine atI_nat ?_
        rw [List.getElem?_map, hx]
        rfl
      refine ⟨rfl, _, rfl, _, rfl, a, _, _, _, rfl, rfl, Same.tup sm hA2, hx2, ?_⟩
      refine ⟨_, rfl, _, rfl, b, _, _, _, rfl, rfl, Same.tup sm hB2, hx2, ?_⟩
      refine ⟨.int x, rfl, .inr (.inl ⟨x, rfl⟩), fun H2 sm2 => ⟨true, rfl, iteF ⟨Same.trans' sm sm2, sm2 _ _ e⟩⟩⟩
    · obtain ⟨sm, e⟩ := h
      refine ⟨by decide, fun l3 hl3 => ?_⟩
      refine ⟨.list [], .list [], .lst (SqL.of ((upd_ne (ne_of_none e hl3)).trans e)) .nil, .lst (SqL.of (upd_same ..)) .nil, by decide +kernel, by decide +kernel, ?_⟩
      have ev : PyData.eqv (.list []) (.list []) = true := by decide +kernel
      rw [ev]
      exact q _ (Same.trans' s2 (Same.trans' sm (same_upd hl3)))
end
end K06P

set_option maxRecDepth 100000
set_option maxHeartbeats 4000000
/-! The law: its context and its first statements. -/
namespace K06P
open PySem PySem.Spec PyProof.Rows L2 GxR
theorem fnOk_or {P : Program} {w : World} {K : PySem.W.Frag} {mg : Str → Option Value} {base : Heap} {CX : CXT} {k : Nat} {f : Addr} {fd : FuncData} {ps : List Str} {sp sp' : Sp} (F : FnOk P w K mg base CX k f fd ps sp) (G : FnOk P w K mg base CX k f fd ps sp') :
    FnOk P w K mg base CX k f fd ps (fun vs H Q E => sp vs H Q E ∨ sp' vs H Q E) :=
  ⟨fun vs H Q E h => h.elim (F.len vs H Q E) (G.len vs H Q E), fun A outer s H args us vs Q E hr he hb hv h => h.elim (F.run A outer s H args us vs Q E hr he hb hv) (G.run A outer s H args us vs Q E hr he hb hv)⟩
abbrev lawN : List Str := ["_law_script", "_law_row", "_law_size", "_law_deputies_here", "_law_person", "_law_other", "_law_many", "_law_lots_here", "_law_some", "_law_least", "_law_value", "_law_due", "_law_tops", "_law_best", "_law_found", "_law_lot_here", "_law_one", "_law_k"]
def lawSt (i : Nat) : Stmt := (defBody sLaw).getD i (.Pass ⟨0, 0, 0, 0⟩)
/-- the defs that the law calls -/
structure Fns (P : Program) (w : World) (K : PySem.W.Frag) (mg : Str → Option Value) (base : Heap) (P1 P2 : Addr) : Prop where
  names : Names mg
  taken : Cal P w K mg base "_law_taken" 1 ["_law_row", "_law_many"] (spTaken K)
  ldep : Cal P w K mg base "_law_deputies" 2 ["_law_row", "_law_size"] (spLDep K)
  llots : Cal P w K mg base "_law_lots" 1 ["_law_size"] (spLots K)
  lholder : Cal P w K mg base "_law_holder" 1 ["_law_deputies_here", "_law_gone", "_law_person"] (spHolder K)
  lholders : Cal P w K mg base "_law_holders" 2 ["_law_deputies_here", "_law_gone"] (spHolders K)
  alike : Cal P w K mg base "_law_alike" 2 ["_law_found", "_law_due"] (fun vs H Q E => spScal vs H Q E ∨ spAlike K vs H Q E)
  least : Cal P w K mg base "least_gone" 3 ["deputies", "person", "other"] (spLeast K P1 P2)
  fewest : Cal P w K mg base "fewest_load" 5 ["deputies", "person", "many"] (spFewest K P1 P2)
  showsf : Cal P w K mg base "shows_fewest_load" 5 ["deputies", "person", "many", "value"] (spShowsF K P1 P2)
  loadlots : Cal P w K mg base "load_lots" 5 ["deputies", "person", "many"] (spLoadLots K P1 P2)
  greatest : Cal P w K mg base "greatest_load" 7 ["deputies", "many"] (spGreatest K P1 P2)
  showsg : Cal P w K mg base "shows_greatest_load" 7 ["deputies", "many", "value"] (spShowsG K P1 P2)
/-- what stays while the law goes on -/
structure LP (K : PySem.W.Frag) (P1 P2 : Addr) (a l0 : Addr) (ds : List Int) (p o m : Int) (vL : List V) (L : List (List Int)) (H : Hp) : Prop where
  dep : SqT K H a (ds.map V.int)
  D : K06.Deps ds
  tb : Tb P1 P2 H
  per : K06.Per ds p
  o1 : -1 ≤ o
  o2 : o < ds.length
  m0 : 0 ≤ m
  m6 : m ≤ 6
  l0 : H l0 = some (.lst vL)
  lv : LotsV K H vL L
  hL : L.Perm (K06.lots ds.length)
theorem LP.gr {K : PySem.W.Frag} {P1 P2 a l0 : Addr} {ds : List Int} {p o m : Int} {vL : List V} {L : List (List Int)} {H H' : Hp} (h : LP K P1 P2 a l0 ds p o m vL L H) (g : Gr P1 P2 H H') : LP K P1 P2 a l0 ds p o m vL L H' :=
  ⟨g.tup h.tb h.dep, h.D, g.tb h.tb, h.per, h.o1, h.o2, h.m0, h.m6, g.at h.tb h.l0 (fun _ z => by cases z), lotsV_gr g h.tb h.lv, h.hL⟩
theorem LP.len {K : PySem.W.Frag} {P1 P2 a l0 : Addr} {ds : List Int} {p o m : Int} {vL : List V} {L : List (List Int)} {H : Hp} (h : LP K P1 P2 a l0 ds p o m vL L H) : L.length ≤ 32 := by
  rw [h.hL.length_eq]
  exact lots_small h.D.hi
/-- a list of lots at l -/
def LL (K : PySem.W.Frag) (H : Hp) (l : Addr) (vs : List V) (M : List (List Int)) : Prop := H l = some (.lst vs) ∧ LotsV K H vs M
theorem LL.gr {K : PySem.W.Frag} {P1 P2 l : Addr} {vs : List V} {M : List (List Int)} {H H' : Hp} (h : LL K H l vs M) (t : Tb P1 P2 H) (g : Gr P1 P2 H H') : LL K H' l vs M := ⟨g.at t h.1 (fun _ z => by cases z), lotsV_gr g t h.2⟩
abbrev sig (sc r a l0 : Addr) (n p o m : Int) (x8 x9 x10 x11 x12 x13 x14 x15 x16 x17 : Option V) : L2.St := [some (.ref sc), some (.ref r), some (.int n), some (.ref a), some (.int p), some (.int o), some (.int m), some (.ref l0), x8, x9, x10, x11, x12, x13, x14, x15, x16, x17]
abbrev XW (P : Program) (w : World) (K : PySem.W.Frag) (mg : Str → Option Value) (base : Heap) (f : Addr) (cdv : Value) (A : Around) (outer : List Env) (s : Shared) (H0 : Hp) (E : XK) : Cx := (cxOf CX0 P w K mg base lawN "law" (defScope sLaw) f cdv A outer s H0 E).nox
section
variable {P : Program} {w : World} {K : PySem.W.Frag} {mg : Str → Option Value} {base : Heap} {P1 P2 : Addr} {f : Addr} {cdv : Value} {A : Around} {outer : List Env} {s : Shared} {H0 : Hp} {E : XK}
abbrev AL (f : Addr) (cdv : Value) (A : Around) (s : Shared) : Around := A.deeper (envOfC "law" (defScope sLaw) s.heap.objs.size f cdv)
def Pre0 (K : PySem.W.Frag) (P1 P2 : Addr) : L2.St → Hp → Prop := fun σ H => ∃ (sc : Addr) (ns : List Int), σ = start lawN [.ref sc] ∧ SqL K H sc (ns.map V.int) ∧ ns.length ≤ sizeLine ∧ Tb P1 P2 H
def Pre1 (K : PySem.W.Frag) (P1 P2 : Addr) : L2.St → Hp → Prop := fun σ H => ∃ (sc r : Addr) (ns : List Int) (i s c : Int), σ = [some (.ref sc), some (.ref r), none, none, none, none, none, none, none, none, none, none, none, none, none, none, none, none] ∧ Row K H r sc ns i s c ∧ ns.length ≤ sizeLine ∧ Tb P1 P2 H
def Pre2 (K : PySem.W.Frag) (P1 P2 : Addr) : L2.St → Hp → Prop := fun σ H => ∃ (sc r : Addr) (ns : List Int) (i s c : Int) (n : Nat), σ = [some (.ref sc), some (.ref r), some (.int n), none, none, none, none, none, none, none, none, none, none, none, none, none, none, none] ∧ 1 ≤ n ∧ n ≤ 5 ∧ Row K H r sc ns i s c ∧ ns.length ≤ sizeLine ∧ Tb P1 P2 H
def Pre3 (K : PySem.W.Frag) (P1 P2 : Addr) : L2.St → Hp → Prop := fun σ H => ∃ (sc r a : Addr) (ds : List Int) (p o m : Int), σ = [some (.ref sc), some (.ref r), some (.int (ds.length : Int)), some (.ref a), some (.int p), some (.int o), some (.int m), none, none, none, none, none, none, none, none, none, none, none] ∧
  SqT K H a (ds.map V.int) ∧ K06.Deps ds ∧ Tb P1 P2 H ∧ K06.Per ds p ∧ -1 ≤ o ∧ o < ds.length ∧ 0 ≤ m ∧ m ≤ 6
def Pre4 (K : PySem.W.Frag) (P1 P2 : Addr) : L2.St → Hp → Prop := fun σ H => ∃ (sc r a l0 : Addr) (ds : List Int) (p o m : Int) (vL : List V) (L : List (List Int)) (x8 x9 x10 x11 x12 x13 x14 x15 x16 x17 : Option V), σ = sig sc r a l0 ds.length p o m x8 x9 x10 x11 x12 x13 x14 x15 x16 x17 ∧ LP K P1 P2 a l0 ds p o m vL L H
theorem st_0 : ∃ t, PS (XW P w K mg base f cdv A outer s H0 E) (lawSt 0) t ∧ ∀ (D : Ends) σ H, Pre0 K P1 P2 σ H → (∀ σ' H', Pre1 K P1 P2 σ' H' → D.nx σ' H') → t D σ H := by
  refine ⟨_, ps_set (i := 1) scLaw.nd rfl (Or.inl rfl) (pe_lst (pa_cons (pv 0) (pa_cons pe_int (pa_cons pe_int (pa_cons pe_int pa_nil))))), ?_⟩
  rintro D σ H ⟨sc, ns, rfl, hs, hl, tb⟩ q
  refine ⟨_, rfl, (show 4 ≤ sizeLine by decide), fun r hr => q _ _ ⟨sc, r, ns, 0, 13806, 0, rfl, ⟨upd_same .., ?_, by decide, by decide, by decide⟩, hl, (Gr.same (same_upd hr)).tb tb⟩⟩
  exact (Gr.same (P1 := P1) (P2 := P2) (same_upd hr)).seq tb hs
theorem st_1 (hr : Room 7 (AL f cdv A s)) (B : Fns P w K mg base P1 P2) : ∃ t, PS (XW P w K mg base f cdv A outer s H0 E) (lawSt 1) t ∧ ∀ (D : Ends) σ H, Pre1 K P1 P2 σ H → (∀ σ' H', Pre2 K P1 P2 σ' H' → D.nx σ' H') → t D σ H := by
  refine ⟨_, ps_set (i := 2) scLaw.nd rfl (Or.inr rfl) (pe_op op_add pe_int (pe_cal B.taken (hr.mono (by omega)) (by rfl) (pa_cons (pv 1) (pa_cons pe_int pa_nil)))), ?_⟩
  rintro D σ H ⟨sc, r, ns, i, s, c, rfl, R, hl, tb⟩ q
  refine ⟨_, rfl, r, sc, ns, i, s, c, 5, rfl, R, by decide, by decide, hl, fun i' s' c' v R' h0 h1 => ⟨1, v, rfl, rfl, ?_⟩⟩
  refine q _ _ ⟨sc, r, ns, i', s', c', (1 + v).toNat, ?_, by omega, by omega, R', hl, ?_⟩
  · rw [Int.toNat_of_nonneg (by omega)]
    rfl
  · exact ⟨sm_tab sm_row R.at_ tb.t1, sm_tab sm_row R.at_ tb.t2⟩
theorem st_2 (hr : Room 7 (AL f cdv A s)) (B : Fns P w K mg base P1 P2) : ∃ t, PS (XW P w K mg base f cdv A outer s H0 E) (lawSt 2) t ∧ ∀ (D : Ends) σ H, Pre2 K P1 P2 σ H → (∀ σ' H', Pre3 K P1 P2 σ' H' → D.nx σ' H') → t D σ H := by
  refine ⟨_, ps_asg (pe_tup (pa_cons (pe_cal B.ldep (hr.mono (by omega)) (by rfl) (pa_cons (pv 1) (pa_cons (pv 2) pa_nil))) (pa_cons (pe_cal B.taken (hr.mono (by omega)) (by rfl) (pa_cons (pv 1) (pa_cons (pv 2) pa_nil)))
      (pa_cons (pe_op op_sub (pe_cal B.taken (hr.mono (by omega)) (by rfl) (pa_cons (pv 1) (pa_cons (pe_op op_add (pv 2) pe_int) pa_nil))) pe_int) (pa_cons (pe_cal B.taken (hr.mono (by omega)) (by rfl) (pa_cons (pv 1) (pa_cons pe_int pa_nil))) pa_nil)))))
      (pg_tup rfl (pgs_cons (pg_name (i := 3) scLaw.nd rfl (Or.inr rfl)) (pgs_cons (pg_name (i := 4) scLaw.nd rfl (Or.inr rfl)) (pgs_cons (pg_name (i := 5) scLaw.nd rfl (Or.inr rfl)) (pgs_cons (pg_name (i := 6) scLaw.nd rfl (Or.inr rfl)) pgs_nil))))), ?_⟩
  rintro D σ H ⟨sc, r, ns, i, s, c, n, rfl, hn1, hn5, R, hl, tb⟩ q
  refine ⟨_, rfl, _, rfl, r, sc, ns, i, s, c, n, rfl, R, hn1, hn5, hl, fun a H1 ds i1 s1 c1 hA D' hlen R1 sm1 => ?_⟩
  refine ⟨_, rfl, _, rfl, r, sc, ns, i1, s1, c1, n, rfl, R1, by omega, by omega, hl, fun i2 s2 c2 p R2 hp0 hp1 => ?_⟩
  refine ⟨_, rfl, _, rfl, (n : Int), 1, rfl, rfl, r, sc, ns, i2, s2, c2, (n : Int) + 1, rfl, R2, by omega, by omega, hl, fun i3 s3 c3 o R3 ho0 ho1 => ⟨o, 1, rfl, rfl, ?_⟩⟩
  refine ⟨_, rfl, r, sc, ns, i3, s3, c3, 7, rfl, R3, by decide, by decide, hl, fun i4 s4 c4 m R4 hm0 hm1 => ?_⟩
  have smr : Sm r H1 (upd (upd (upd H1 r (.lst (rowV sc i2 s2 c2))) r (.lst (rowV sc i3 s3 c3))) r (.lst (rowV sc i4 s4 c4))) := sm_trans (sm_trans sm_row sm_row) sm_row
  refine ⟨(show 4 ≤ sizeLine by decide), fun t ht => ⟨t, _, rfl, SqT.of (upd_same ..), rfl, _, _, rfl, _, _, rfl, _, _, rfl, _, _, rfl, rfl, ?_⟩⟩
  have smt := sm_trans smr (sm_same (r := r) (same_upd (o := .tup [.ref a, .int p, .int (o - 1), .int m]) ht))
  have tb1 : Tb P1 P2 H1 := ⟨sm_tab sm1 R.at_ tb.t1, sm_tab sm1 R.at_ tb.t2⟩
  refine q _ _ ⟨sc, r, a, ds, p, o - 1, m, ?_, ?_, D', ⟨sm_tab smt R1.at_ tb1.t1, sm_tab smt R1.at_ tb1.t2⟩, ⟨hp0, by omega⟩, by omega, by omega, hm0, by omega⟩
  · rw [hlen]
    rfl
  · rcases hA with (h | ⟨o, h⟩) | h
    · exact .inl (.inl (smt _ _ (by intro z; rw [z, R1.at_] at h; cases h) h))
    · exact .inl (.inr ⟨o, smt _ _ (by intro z; rw [z, R1.at_] at h; cases h) h⟩)
    · exact .inr h
theorem st_3 (hr : Room 7 (AL f cdv A s)) (B : Fns P w K mg base P1 P2) : ∃ t, PS (XW P w K mg base f cdv A outer s H0 E) (lawSt 3) t ∧ ∀ (D : Ends) σ H, Pre3 K P1 P2 σ H → (∀ σ' H', Pre4 K P1 P2 σ' H' → D.nx σ' H') → t D σ H := by
  refine ⟨_, ps_set (i := 7) scLaw.nd rfl (Or.inr rfl) (pe_cal B.llots (hr.mono (by omega)) (by rfl) (pa_cons (pv 2) pa_nil)), ?_⟩
  rintro D σ H ⟨sc, r, a, ds, p, o, m, rfl, hA, D', tb, hp, ho1, ho2, hm0, hm6⟩ q
  refine ⟨_, rfl, ds.length, rfl, D'.hi, fun l0 H1 vL L hl sm e lv hL => ?_⟩
  exact q _ _ ⟨sc, r, a, l0, ds, p, o, m, vL, L, _, _, _, _, _, _, _, _, _, _, rfl, ⟨Same.tup sm hA, D', (Gr.same sm).tb tb, hp, ho1, ho2, hm0, hm6, e, lv, hL⟩⟩
end
end K06P

set_option maxRecDepth 100000
set_option maxHeartbeats 4000000
/-! The law: its lists of lots. -/
namespace K06P
open PySem PySem.Spec PyProof.Rows L2 GxR
section
variable {P : Program} {w : World} {K : PySem.W.Frag} {mg : Str → Option Value} {base : Heap} {P1 P2 : Addr} {f : Addr} {cdv : Value} {A : Around} {outer : List Env} {s : Shared} {H0 : Hp} {E : XK}
abbrev scLot : Scope := { kind := .function, names := [((".0" : Str), .local), (("_law_lot_here" : Str), .local), (("len" : Str), .globalImplicit), (("min" : Str), .globalImplicit), (("_law_some" : Str), .cell)], isGenerator := false, isCoroutine := false }
theorem filter_next {α : Type} (fn : α → Bool) {M : List α} {i : Nat} {g : α} (h : M[i]? = some g) : (M.take (i + 1)).filter fn = (M.take i).filter fn ++ (if fn g = true then [g] else []) := by
  rw [take_next h, List.filter_append, List.filter_cons]
  cases fn g <;> rfl
/-- [lot for lot in lots if ..] -/
theorem lc_filter {tt : TT} {σ : L2.St} {H1 : Hp} {D a : Addr} {vs : List V} {M : List (List Int)} {Qd : Hp → Prop} (fn : List Int → Bool) (hσ : σ.length = 18) (e : H1 a = some (.lst vs)) (lv : LotsV K H1 vs M) (hM : M.length ≤ 32) (hD : H1 D = none)
    (ht : ∀ (i : Nat) (b : Addr) (g : List Int) (H' : Hp), M[i]? = some g → Same H1 H' → SqT K H' b (g.map V.int) → ∀ Q : Bool → Hp → Prop, (∀ H'', Same H' H'' → Q (fn g) H'') → tt ((σ.set 15 none).set 15 (some (.ref b))) H' Q)
    (hq : ∀ H' acc, Same H1 H' → H' D = some (.lst acc) → LotsV K H' acc (M.filter fn) → Qd H') :
    ∃ W : Nat → Nat → Hp → Prop, (∃ m, W 0 m (upd H1 D (.lst []))) ∧ ∀ i m H, W i m H →
      ((Itl K a).stop i H ∧ Qd H) ∨ ((Itl K a).go i H ∧ ∃ Nx : Hp → Prop, (∀ H', Nx H' → ∃ m', m' < m ∧ W (i + 1) m' H') ∧ ∀ x H', (Itl K a).yld i H x H' → gName 15 x (wipe σ [15]) H' fun σ2 H2 => wipe σ2 [15] = wipe σ [15] ∧ tt σ2 H2 fun b H3 =>
        if b = true then tVar 15 σ2 H3 fun y H4 => ∃ acc, H4 D = some (.lst acc) ∧ acc.length < sizeLine ∧ Nx (upd H4 D (.lst (acc ++ [y]))) else Nx H3) := by
  have hlen := lot_pairs lv
  refine lc_list (K := K) (xs := vs) (fun i H' => Same H1 H' ∧ ∃ acc, H' D = some (.lst acc) ∧ LotsV K H' acc ((M.take i).filter fn)) ⟨same_upd hD, [], upd_same .., .nil⟩ (fun j H' _ h => SqL.of (h.1 _ _ e)) (fun i v H' hv h => ?_) (fun H' h => ?_)
  · obtain ⟨sm, acc, eD, la⟩ := h
    obtain ⟨g, hg, b, rfl, hB⟩ := paired_at lv hv
    refine ⟨?_, ht i b g H' hg sm (Same.tup sm hB) _ fun H2 sm2 => ?_⟩
    · show (((σ.set 15 none).set 15 (some (.ref b))).set 15 none) = σ.set 15 none
      rw [List.set_set, List.set_set]
    have eD2 := sm2 _ _ eD
    have la2 := lotsV_same sm2 la
    have hacc : acc.length ≤ 32 := by
      rw [lot_pairs la]
      refine Nat.le_trans (List.length_filter_le _ _) ?_
      rw [List.length_take]
      omega
    cases hf : fn g with
    | true =>
      refine iteT ⟨.ref b, ?_, acc, eD2, line1000 (by omega), same_upd2 (Same.trans' sm sm2) hD, _, upd_same .., ?_⟩
      · show ((σ.set 15 none).set 15 (some (.ref b)))[15]? = _
        rw [List.getElem?_set_self (by rw [List.length_set, hσ]; decide)]
      · rw [filter_next fn hg, hf, if_pos rfl]
        exact lotsV_app (lotsV_keepD la2 eD2) (.cons ⟨b, rfl, tup_upd_lst (Same.tup (Same.trans' sm sm2) hB) eD2⟩ .nil)
    | false =>
      refine iteF ⟨Same.trans' sm sm2, acc, eD2, ?_⟩
      rw [filter_next fn hg, hf, if_neg (by decide), List.append_nil]
      exact la2
  · obtain ⟨sm, acc, eD, la⟩ := h
    rw [hlen, List.take_length] at la
    exact hq H' acc sm eD la
/-- the lens' least, within a comprehension: slot 16 -/
theorem lens_min {σ : L2.St} {H1 : Hp} {a : Addr} {vs : List V} {M : List (List Int)} {Q : VK} (hσ : σ.length = 18) (ha : σ[8]? = some (some (.ref a))) (e : H1 a = some (.lst vs)) (lv : LotsV K H1 vs M) (hM : M.length ≤ 32) (hne : M ≠ [])
    (q : ∀ H' m, Same H1 H' → m ∈ (M.map fun g => (g.length : Int)) → (∀ y ∈ M.map fun g => (g.length : Int), m ≤ y) → Q (.int m) H') :
    tCB (rMin K) (tCons (tLc (iList K (tVar 8)) (gName 16) tYes (tCB (fun xs H Q => ∃ p ys, xs = [.ref p] ∧ (SqL K H p ys ∨ SqT K H p ys) ∧ Q (.int ys.length) H) (tCons (tVar 16) tNil)) [16]) tNil) σ H1 Q := by
  have hlen := lot_pairs lv
  refine ⟨.ref a, ha, a, rfl, ⟨_, SqL.of e⟩, fun D0 hD0 => ?_⟩
  refine lc_list (K := K) (xs := vs) (fun i H4 => Same H1 H4 ∧ H4 D0 = some (.lst (((M.take i)).map fun g => V.int (g.length : Int)))) ⟨same_upd hD0, upd_same ..⟩ (fun j H4 _ h => SqL.of (h.1 _ _ e)) (fun i v H4 hv' h => ?_) (fun H4 h => ?_)
  · obtain ⟨sm4, eD⟩ := h
    obtain ⟨g, hg, b, rfl, hB⟩ := paired_at lv hv'
    refine ⟨?_, .ref b, ?_, b, _, rfl, .inr (Same.tup sm4 hB), _, eD, line1000 (by rw [List.length_map, List.length_take]; omega), same_upd2 sm4 hD0, ?_⟩
    · show (((σ.set 16 none).set 16 (some (.ref b))).set 16 none) = σ.set 16 none
      rw [List.set_set, List.set_set]
    · show ((σ.set 16 none).set 16 (some (.ref b)))[16]? = _
      rw [List.getElem?_set_self (by rw [List.length_set, hσ]; decide)]
    · rw [upd_same, take_next hg, List.map_append, List.length_map]
      rfl
  · obtain ⟨sm4, eD⟩ := h
    rw [hlen, List.take_length] at eD
    have eD' : H4 D0 = some (.lst ((M.map fun g => (g.length : Int)).map V.int)) := by
      rw [eD, List.map_map]
      rfl
    refine ⟨D0, _, rfl, SqL.of eD', ?_, fun mm hm1 hm2 => q H4 mm sm4 hm1 hm2⟩
    rw [List.length_map]
    exact List.length_pos_iff.mpr hne
def Pre5 (K : PySem.W.Frag) (P1 P2 : Addr) (fs : List Int → Int → Int → Int → List (List Int) → List (List Int)) : L2.St → Hp → Prop := fun σ H => ∃ (sc r a l0 : Addr) (ds : List Int) (p o m : Int) (vL : List V) (L : List (List Int)) (s1 : Addr) (vs : List V) (x9 x10 x11 x12 x13 x14 x15 x16 x17 : Option V), σ = sig sc r a l0 ds.length p o m (some (.ref s1)) x9 x10 x11 x12 x13 x14 x15 x16 x17 ∧ LP K P1 P2 a l0 ds p o m vL L H ∧ LL K H s1 vs (fs ds p o m L)
def Pre6 (K : PySem.W.Frag) (P1 P2 : Addr) (fs : List Int → Int → Int → Int → List (List Int) → List (List Int)) : L2.St → Hp → Prop := fun σ H => ∃ (sc r a l0 : Addr) (ds : List Int) (p o m : Int) (vL : List V) (L : List (List Int)) (s1 e1 : Addr) (vs ws : List V) (x10 x11 x12 x13 x14 x15 x16 x17 : Option V), σ = sig sc r a l0 ds.length p o m (some (.ref s1)) (some (.ref e1)) x10 x11 x12 x13 x14 x15 x16 x17 ∧ LP K P1 P2 a l0 ds p o m vL L H ∧ LL K H s1 vs (fs ds p o m L) ∧ LL K H e1 ws (K06.leastOf (fs ds p o m L))
def fG : List Int → Int → Int → Int → List (List Int) → List (List Int) := fun ds p o _ L => K06.goneSome ds p o L
def fL : List Int → Int → Int → Int → List (List Int) → List (List Int) := fun ds p _ m L => K06.loaded ds p m L
theorem st_4 (hr : Room 7 (AL f cdv A s)) (B : Fns P w K mg base P1 P2) : ∃ t, PS (XW P w K mg base f cdv A outer s H0 E) (lawSt 4) t ∧ ∀ (D : Ends) σ H, Pre4 K P1 P2 σ H → (∀ σ' H', Pre5 K P1 P2 fG σ' H' → D.nx σ' H') → t D σ H := by
  refine ⟨_, ps_set (i := 8) scLaw.nd rfl (Or.inr rfl) (pe_lc (own := [("_law_lot_here", 15)]) (g := gName 15) (tt := tTest (tOp rEq (tCall (spHolder K) [] E0 (tCons (tVar 3) (tCons (tVar 15) (tCons (tVar 4) tNil)))) (tVar 5))) (te := tVar 15) rfl scLaw.nd (pi_list (pv 7))
    (blkOk_by (N := lawN) (sc := defScope sLaw) (by decide +kernel)) (fun _ _ _ _ _ => pg_name (i := 15) scLaw.nd rfl (Or.inl rfl)) (fun _ _ _ _ _ => pts_one (pt_cmpR op_eq (pe_cal B.lholder (hr.mono (by omega)) (by rfl) (pa_cons (pv 3) (pa_cons (pv 15) (pa_cons (pv 4) pa_nil)))) (pv 5) (nomark _))) (fun _ _ _ _ _ => pv 15)), ?_⟩
  rintro D σ H ⟨sc, r, a, l0, ds, p, o, m, vL, L, x8, x9, x10, x11, x12, x13, x14, x15, x16, x17, rfl, lp⟩ q
  refine ⟨_, rfl, l0, rfl, ⟨_, SqL.of lp.l0⟩, fun D0 hD0 => ?_⟩
  refine lc_filter (fun g => decide (K06.holder ds g p = o)) rfl lp.l0 lp.lv lp.len hD0 (fun i b g H' hg sm hB Q hq => ?_) (fun H' acc sm eD la => ?_)
  · refine ⟨_, rfl, _, rfl, _, rfl, a, b, ds, g, p, rfl, Same.tup sm lp.dep, hB, lp.D, lp.per, fun H2 sm2 => ⟨_, rfl, rfl, _, rfl, ?_⟩⟩
    have e : decide (V.int (K06.holder ds g p) = V.int o) = decide (K06.holder ds g p = o) := decide_eq_decide.mpr ⟨fun z => V.int.inj z, fun z => by rw [z]⟩
    rw [e]
    exact hq H2 sm2
  · exact q _ _ ⟨sc, r, a, l0, ds, p, o, m, vL, L, D0, acc, x9, x10, x11, x12, x13, x14, x15, x16, x17, rfl, lp.gr (Gr.same sm), eD, la⟩
theorem st_7 (hr : Room 7 (AL f cdv A s)) (B : Fns P w K mg base P1 P2) : ∃ t, PS (XW P w K mg base f cdv A outer s H0 E) (lawSt 7) t ∧ ∀ (D : Ends) σ H, Pre4 K P1 P2 σ H → (∀ σ' H', Pre5 K P1 P2 fL σ' H' → D.nx σ' H') → t D σ H := by
  refine ⟨_, ps_set (i := 8) scLaw.nd rfl (Or.inr rfl) (pe_lc (own := [("_law_lot_here", 15)]) (g := gName 15) (tt := tAnd (tTest (tOp (rIn K true) (tVar 4) (tVar 15))) (tTest (tOp (rI0 fun i j => .bl (decide (j ≤ i))) (tBM K "list" (rCntI K) (tCall (spHolders K) [] E0 (tCons (tVar 3) (tCons (tVar 15) tNil))) (tCons (tVar 4) tNil)) (tVar 6)))) (te := tVar 15) rfl scLaw.nd (pi_list (pv 7))
    (blkOk_by (N := lawN) (sc := defScope sLaw) (by decide +kernel)) (fun _ _ _ _ _ => pg_name (i := 15) scLaw.nd rfl (Or.inl rfl)) (fun _ _ _ _ _ => pts_one (PW.pt (pw_and (pt_cmpR op_notIn_seq (pv 4) (pv 15) (by with_unfolding_all rfl)) (pw_and1 (pt_cmpR op_ge (pe_bm PySem.F.plainAttrs_list PySem.F.slot_list_count PySem.F.type_list_count mt_lcount (pe_cal B.lholders (hr.mono (by omega)) (by rfl) (pa_cons (pv 3) (pa_cons (pv 15) pa_nil))) (pa_cons (pv 4) pa_nil)) (pv 6) (nomark _)))))) (fun _ _ _ _ _ => pv 15)), ?_⟩
  rintro D σ H ⟨sc, r, a, l0, ds, p, o, m, vL, L, x8, x9, x10, x11, x12, x13, x14, x15, x16, x17, rfl, lp⟩ q
  refine ⟨_, rfl, l0, rfl, ⟨_, SqL.of lp.l0⟩, fun D0 hD0 => ?_⟩
  refine lc_filter (fun g => decide (p ∉ g) && decide (m ≤ (K06.load ds g p : Int))) rfl lp.l0 lp.lv lp.len hD0 (fun i b g H' hg sm hB Q hq => ?_) (fun H' acc sm eD la => ?_)
  · refine ⟨_, rfl, _, rfl, b, _, rfl, .inr hB, rfl, flat_ints _, _, rfl, ?_⟩
    rw [inV_ints]
    by_cases h1 : p ∈ g
    · rw [decide_eq_true h1]
      have := hq H' (Same.refl _)
      rw [decide_eq_false (fun z => z h1), Bool.false_and] at this
      exact iteF this
    · rw [decide_eq_false h1]
      refine iteT ⟨_, rfl, _, rfl, a, b, ds, g, rfl, Same.tup sm lp.dep, hB, lp.D, fun l2 H2 hl2 sm2 e2 => ?_⟩
      refine ⟨.inl ⟨rfl, _, SqL.of e2⟩, _, rfl, l2, _, p, rfl, rfl, SqL.of e2, ?_⟩
      refine ⟨_, rfl, ((K06.load ds g p : Nat) : Int), m, rfl, rfl, _, rfl, ?_⟩
      have := hq H2 sm2
      rw [decide_eq_true h1, Bool.true_and] at this
      exact this
  · exact q _ _ ⟨sc, r, a, l0, ds, p, o, m, vL, L, D0, acc, x9, x10, x11, x12, x13, x14, x15, x16, x17, rfl, lp.gr (Gr.same sm), eD, la⟩
theorem least_read {fs : List Int → Int → Int → Int → List (List Int) → List (List Int)} (hfs : ∀ ds p o m L, (fs ds p o m L).length ≤ L.length) {D : Ends} {σ : L2.St} {H : Hp} (h : Pre5 K P1 P2 fs σ H) (q : ∀ σ' H', Pre6 K P1 P2 fs σ' H' → D.nx σ' H') :
    tAsg (tLc (iList K (tVar 8)) (gName 15) (tTest (tOp rEq (tCB (fun xs H Q => ∃ p ys, xs = [.ref p] ∧ (SqL K H p ys ∨ SqT K H p ys) ∧ Q (.int ys.length) H) (tCons (tVar 15) tNil)) (tCB (rMin K) (tCons (tLc (iList K (tVar 8)) (gName 16) tYes (tCB (fun xs H Q => ∃ p ys, xs = [.ref p] ∧ (SqL K H p ys ∨ SqT K H p ys) ∧ Q (.int ys.length) H) (tCons (tVar 16) tNil)) [16]) tNil)))) (tVar 15) [15]) (gName 9) D σ H := by
  obtain ⟨sc, r, a, l0, ds, p, o, m, vL, L, s1, vs, x9, x10, x11, x12, x13, x14, x15, x16, x17, rfl, lp, ll⟩ := h
  have hM : (fs ds p o m L).length ≤ 32 := Nat.le_trans (hfs ..) lp.len
  refine ⟨_, rfl, s1, rfl, ⟨_, SqL.of ll.1⟩, fun D0 hD0 => ?_⟩
  refine lc_filter (fun g => decide (∀ y ∈ fs ds p o m L, g.length ≤ y.length)) rfl ll.1 ll.2 hM hD0 (fun i b g H' hg sm hB Q hq => ?_) (fun H' acc sm eD la => ?_)
  · refine ⟨_, rfl, b, _, rfl, .inr hB, ?_⟩
    refine lens_min (M := fs ds p o m L) rfl rfl (sm _ _ ll.1) (lotsV_same sm ll.2) hM (List.ne_nil_of_mem (List.mem_of_getElem? hg)) fun H2 mm sm2 h1 h2 => ⟨rfl, _, rfl, ?_⟩
    have := hq H2 sm2
    rw [← K06.least_test h1 h2 g (List.mem_of_getElem? hg)] at this
    have e : decide (V.int ((g.map V.int).length : Int) = V.int mm) = decide ((g.length : Int) = mm) := by
      rw [List.length_map]
      exact decide_eq_decide.mpr ⟨fun z => V.int.inj z, fun z => by rw [z]⟩
    rw [e]
    exact this
  · exact q _ _ ⟨sc, r, a, l0, ds, p, o, m, vL, L, s1, D0, vs, acc, x10, x11, x12, x13, x14, x15, x16, x17, rfl, lp.gr (Gr.same sm), ll.gr lp.tb (Gr.same sm), eD, la⟩
theorem st_5 (hr : Room 7 (AL f cdv A s)) (B : Fns P w K mg base P1 P2) : ∃ t, PS (XW P w K mg base f cdv A outer s H0 E) (lawSt 5) t ∧ ∀ (D : Ends) σ H, Pre5 K P1 P2 fG σ H → (∀ σ' H', Pre6 K P1 P2 fG σ' H' → D.nx σ' H') → t D σ H := by
  refine ⟨_, ps_setLc (i := 9) (own := [("_law_lot_here", 15)]) (g := gName 15) (tt := (tTest (tOp rEq (tCB (fun xs H Q => ∃ p ys, xs = [.ref p] ∧ (SqL K H p ys ∨ SqT K H p ys) ∧ Q (.int ys.length) H) (tCons (tVar 15) tNil)) (tCB (rMin K) (tCons (tLc (iList K (tVar 8)) (gName 16) tYes (tCB (fun xs H Q => ∃ p ys, xs = [.ref p] ∧ (SqL K H p ys ∨ SqT K H p ys) ∧ Q (.int ys.length) H) (tCons (tVar 16) tNil)) [16]) tNil))))) (te := tVar 15) rfl scLaw.nd rfl rfl (sw_true rfl rfl rfl (by decide +kernel)) (pi_list (pv 8))
    (blkOk_by (N := lawN) (sc := defScope sLaw) (by decide +kernel)) (fun _ _ _ _ _ => pg_name (i := 15) scLaw.nd rfl (Or.inl rfl)) (fun _ _ _ _ _ => pts_one (pt_cmpR op_eq (pe_callB call_len_seq (by rfl) B.names.len PySem.boot_len (pa_cons (pv 15) pa_nil)) (pe_callB (cr_min rfl) (by rfl) B.names.min boot_min (pa_cons
      (pe_lc (own := [("_law_one", 16)]) (g := gName 16) (tt := tYes) (te := tCB (fun xs H Q => ∃ p ys, xs = [.ref p] ∧ (SqL K H p ys ∨ SqT K H p ys) ∧ Q (.int ys.length) H) (tCons (tVar 16) tNil)) rfl scLaw.nd (pi_list (pv 8)) (blkOk_by (N := lawN) (sc := scLot) (by decide +kernel)) (fun _ _ _ _ _ => pg_name (i := 16) scLaw.nd rfl (Or.inl rfl)) (fun _ _ _ _ _ => pts_nil) (fun _ _ _ _ _ => pe_callB call_len_seq (by rfl) B.names.len PySem.boot_len (pa_cons (pv 16) pa_nil))) pa_nil)) (nomark _))) (fun _ _ _ _ _ => pv 15), fun D σ H h q => ?_⟩
  exact least_read (fun ds p o m L => List.length_filter_le _ _) h q
theorem st_8 (hr : Room 7 (AL f cdv A s)) (B : Fns P w K mg base P1 P2) : ∃ t, PS (XW P w K mg base f cdv A outer s H0 E) (lawSt 8) t ∧ ∀ (D : Ends) σ H, Pre5 K P1 P2 fL σ H → (∀ σ' H', Pre6 K P1 P2 fL σ' H' → D.nx σ' H') → t D σ H := by
  refine ⟨_, ps_setLc (i := 9) (own := [("_law_lot_here", 15)]) (g := gName 15) (tt := (tTest (tOp rEq (tCB (fun xs H Q => ∃ p ys, xs = [.ref p] ∧ (SqL K H p ys ∨ SqT K H p ys) ∧ Q (.int ys.length) H) (tCons (tVar 15) tNil)) (tCB (rMin K) (tCons (tLc (iList K (tVar 8)) (gName 16) tYes (tCB (fun xs H Q => ∃ p ys, xs = [.ref p] ∧ (SqL K H p ys ∨ SqT K H p ys) ∧ Q (.int ys.length) H) (tCons (tVar 16) tNil)) [16]) tNil))))) (te := tVar 15) rfl scLaw.nd rfl rfl (sw_true rfl rfl rfl (by decide +kernel)) (pi_list (pv 8))
    (blkOk_by (N := lawN) (sc := defScope sLaw) (by decide +kernel)) (fun _ _ _ _ _ => pg_name (i := 15) scLaw.nd rfl (Or.inl rfl)) (fun _ _ _ _ _ => pts_one (pt_cmpR op_eq (pe_callB call_len_seq (by rfl) B.names.len PySem.boot_len (pa_cons (pv 15) pa_nil)) (pe_callB (cr_min rfl) (by rfl) B.names.min boot_min (pa_cons
      (pe_lc (own := [("_law_one", 16)]) (g := gName 16) (tt := tYes) (te := tCB (fun xs H Q => ∃ p ys, xs = [.ref p] ∧ (SqL K H p ys ∨ SqT K H p ys) ∧ Q (.int ys.length) H) (tCons (tVar 16) tNil)) rfl scLaw.nd (pi_list (pv 8)) (blkOk_by (N := lawN) (sc := scLot) (by decide +kernel)) (fun _ _ _ _ _ => pg_name (i := 16) scLaw.nd rfl (Or.inl rfl)) (fun _ _ _ _ _ => pts_nil) (fun _ _ _ _ _ => pe_callB call_len_seq (by rfl) B.names.len PySem.boot_len (pa_cons (pv 16) pa_nil))) pa_nil)) (nomark _))) (fun _ _ _ _ _ => pv 15), fun D σ H h q => ?_⟩
  exact least_read (fun ds p o m L => List.length_filter_le _ _) h q
end
end K06P

set_option maxRecDepth 100000
set_option maxHeartbeats 4000000
/-! The law: its first three questions. -/
namespace K06P
open PySem PySem.Spec PyProof.Rows L2 GxR
theorem exists_sorted (l : List Int) : ∃ S : List Int, S.Perm l ∧ S.Pairwise (· ≤ ·) := by
  refine ⟨l.mergeSort (fun a b => decide (a ≤ b)), List.mergeSort_perm .., ?_⟩
  have := List.pairwise_mergeSort (le := fun (a b : Int) => decide (a ≤ b)) (fun a b c h1 h2 => by simp only [decide_eq_true_eq] at *; omega) (fun a b => by simp only [Bool.or_eq_true, decide_eq_true_eq]; omega) l
  exact this.imp fun {a b} h => by simpa using h
theorem eqv_list_nil (L : List (List Int)) : PyData.eqv (.list (L.map dG)) (.list []) = decide (L = []) := by
  simp only [PyData.eqv]
  cases L with
  | nil => simp [PyData.eqvAll]
  | cons x r => simp [PyData.eqvAll]
theorem lotsV_nil {K : PySem.W.Frag} {H : Hp} {vs : List V} (h : LotsV K H vs []) : vs = [] := by
  cases h
  rfl
theorem alikeAll2_dG (L : List (List Int)) : PySem.W.AlikeAll (L.map dG) := ⟨alikeAll_dG L, fun x hx => by
  obtain ⟨g, _, rfl⟩ := List.mem_map.mp hx
  intro z
  cases z⟩
theorem depth_lots (L : List (List Int)) : PyData.depthAll (L.map dG) ≤ 60 := depth_all 60 _ fun d hd => by
  obtain ⟨g, _, rfl⟩ := List.mem_map.mp hd
  rw [dep_dG]
  omega
section
variable {P : Program} {w : World} {K : PySem.W.Frag} {mg : Str → Option Value} {base : Heap} {P1 P2 : Addr} {f : Addr} {cdv : Value} {A : Around} {outer : List Env} {s : Shared} {H0 : Hp} {E : XK}
theorem st_6 (hr : Room 7 (AL f cdv A s)) (B : Fns P w K mg base P1 P2) : ∃ t, PS (XW P w K mg base f cdv A outer s H0 E) (lawSt 6) t ∧ ∀ (D : Ends) σ H, Pre6 K P1 P2 fG σ H → (∀ σ' H', Pre4 K P1 P2 σ' H' → D.nx σ' H') → t D σ H := by
  refine ⟨_, ps_if (PW.pt (pw_or (pt_cmpR op_gt (pe_callB call_len_seq (by rfl) B.names.len PySem.boot_len (pa_cons (pv 9) pa_nil)) pe_int (nomark _)) (pw_or1 (pt_not (pt_val (pe_cal B.alike (hr.mono (by omega)) (by rfl) (pa_cons (pe_cal B.least (hr.mono (by omega)) (by rfl) (pa_cons (pv 3) (pa_cons (pv 4) (pa_cons (pv 5) pa_nil))))
    (pa_cons (pe_ifExp (pt_cmpR (op_neD (hu64 hr)) (pv 9) (pe_lst pa_nil) (nomark _)) (pe_ix ix_list (pv 9) pe_int (fun _ _ => rfl)) pe_non) pa_nil)))))))) (pss_one (ps_ret pe_bl)) pss_nil, ?_⟩
  rintro D σ H ⟨sc, r, a, l0, ds, p, o, m, vL, L, s1, e1, vs, ws, x10, x11, x12, x13, x14, x15, x16, x17, rfl, lp, ll, le⟩ q
  have fin : ∀ H', Gr P1 P2 H H' → D.nx (sig sc r a l0 ds.length p o m (some (.ref s1)) (some (.ref e1)) x10 x11 x12 x13 x14 x15 x16 x17) H' := fun H' g => q _ _ ⟨sc, r, a, l0, ds, p, o, m, vL, L, _, _, _, _, _, _, _, _, _, _, rfl, lp.gr g⟩
  by_cases hc : o = -1 ∨ o ∈ K06.chain ds p
  · obtain ⟨pre, hpre⟩ : ∃ pre, K06.Pre ds p o pre := by
      by_cases h1 : o = -1
      · exact ⟨_, .inl ⟨h1, rfl⟩⟩
      · obtain ⟨pre, post, h2, h3⟩ := K06.mem_index _ o (hc.resolve_left h1)
        exact ⟨pre, .inr ⟨h1, h3, post, h2⟩⟩
    obtain ⟨S0, hS0, hA0⟩ := exists_sorted pre
    have key := K06.gone_some lp.D lp.per lp.o1 lp.hL hpre hS0 hA0
    have le' : LL K H e1 ws [S0] := by
      have := le
      unfold fG at this
      rw [key] at this
      exact this
    obtain ⟨eW, lW⟩ := le'
    cases lW with
    | cons hv ht =>
      rename_i v vt
      cases ht
      obtain ⟨b, rfl, hB⟩ := hv
      refine ⟨_, rfl, e1, _, rfl, .inl (SqL.of eW), 1, 1, rfl, rfl, false, ?_, iteF ?_⟩
      · show V.bl (decide ((1 : Int) < 1)) = _
        rw [decide_eq_false (by decide)]
      refine ⟨_, rfl, _, rfl, _, rfl, a, ds, p, o, rfl, lp.dep, lp.D, lp.tb.t1, lp.per, lp.o1, lp.o2, fun t H1 S pre' g1 hT hpre' hS hA => ?_, fun H1 g1 h1 h2 => (hc.elim h1 h2).elim⟩
      have key2 := K06.gone_some lp.D lp.per lp.o1 lp.hL hpre' hS hA
      have eS : S0 = S := by
        rw [key] at key2
        exact (List.cons.inj key2).1
      subst eS
      have eW1 := g1.at lp.tb eW (fun _ z => by cases z)
      have hB1 := g1.tup lp.tb hB
      refine ⟨_, rfl, (by decide), fun l2 hl2 => ?_⟩
      have s2 : Same H1 (upd H1 l2 (.lst [])) := same_upd hl2
      refine ⟨.list ([S0].map dG), .list [], .lst (SqL.of (s2 _ _ eW1)) (dp_lots (.cons ⟨b, rfl, Same.tup s2 hB1⟩ .nil)), .lst (SqL.of (upd_same ..)) .nil, shaped_dL _, (by decide +kernel), true, ?_, iteT ?_⟩
      · rw [eqv_list_nil, decide_eq_false (by simp)]
        rfl
      refine ⟨_, rfl, e1, _, 0, _, rfl, rfl, SqL.of (s2 _ _ eW1), rfl, .inr ⟨t, b, S0, rfl, Same.tup s2 hT, Same.tup s2 hB1, ?_, fun H3 sm3 => ⟨true, rfl, iteF (fin H3 ((g1.trans (Gr.same s2)).trans (Gr.same sm3)))⟩⟩⟩
      have h1 : S0.length = pre.length := hS0.length_eq
      have h2 := K06.chain_len lp.D lp.per
      have h5 := lp.D.hi
      rcases hpre with ⟨_, h3⟩ | ⟨_, _, post, h3⟩
      · rw [h1, h3]
        omega
      · rw [h3, List.length_append] at h2
        omega
  · have hc1 : o ≠ -1 := fun z => hc (.inl z)
    have hc2 : o ∉ K06.chain ds p := fun z => hc (.inr z)
    have key : K06.leastOf (K06.goneSome ds p o L) = [] := by
      rw [K06.gone_none L hc1 hc2]
      rfl
    have le' : LL K H e1 ws [] := by
      have := le
      unfold fG at this
      rw [key] at this
      exact this
    obtain ⟨eW, lW⟩ := le'
    cases lW
    refine ⟨_, rfl, e1, _, rfl, .inl (SqL.of eW), 0, 1, rfl, rfl, false, ?_, iteF ?_⟩
    · show V.bl (decide ((1 : Int) < 0)) = _
      rw [decide_eq_false (by decide)]
    refine ⟨_, rfl, _, rfl, _, rfl, a, ds, p, o, rfl, lp.dep, lp.D, lp.tb.t1, lp.per, lp.o1, lp.o2, fun t H1 S pre' g1 hT hpre' hS hA => ?_, fun H1 g1 h1 h2 => ?_⟩
    · have key2 := K06.gone_some lp.D lp.per lp.o1 lp.hL hpre' hS hA
      rw [key] at key2
      cases key2
    have eW1 := g1.at lp.tb eW (fun _ z => by cases z)
    refine ⟨_, rfl, (by decide), fun l2 hl2 => ?_⟩
    have s2 : Same H1 (upd H1 l2 (.lst [])) := same_upd hl2
    refine ⟨.list [], .list [], .lst (SqL.of (s2 _ _ eW1)) .nil, .lst (SqL.of (upd_same ..)) .nil, (by decide +kernel), (by decide +kernel), false, ?_, iteF ?_⟩
    · have ev : PyData.eqv (.list []) (.list []) = true := by decide +kernel
      rw [ev]
      rfl
    exact .inl ⟨.non, rfl, .inl rfl, fun H3 sm3 => ⟨true, rfl, iteF (fin H3 ((g1.trans (Gr.same s2)).trans (Gr.same sm3)))⟩⟩
theorem st_9 (hr : Room 7 (AL f cdv A s)) (B : Fns P w K mg base P1 P2) : ∃ t, PS (XW P w K mg base f cdv A outer s H0 E) (lawSt 9) t ∧ ∀ (D : Ends) σ H, Pre6 K P1 P2 fL σ H → (∀ σ' H', Pre6 K P1 P2 fL σ' H' → D.nx σ' H') → t D σ H := by
  refine ⟨_, ps_if (pt_not (pt_val (pe_cal B.alike (hr.mono (by omega)) (by rfl) (pa_cons (pe_cal B.fewest (hr.mono (by omega)) (by rfl) (pa_cons (pv 3) (pa_cons (pv 4) (pa_cons (pv 6) pa_nil))))
    (pa_cons (pe_ifExp (pt_cmpR (op_neD (hu64 hr)) (pv 9) (pe_lst pa_nil) (nomark _)) (pe_callB (K06R.cr_minD rfl (hu64 hr)) (by rfl) B.names.min boot_min (pa_cons (pv 9) pa_nil)) pe_non) pa_nil))))) (pss_one (ps_ret pe_bl)) pss_nil, ?_⟩
  rintro D σ H ⟨sc, r, a, l0, ds, p, o, m, vL, L, s1, e1, vs, ws, x10, x11, x12, x13, x14, x15, x16, x17, rfl, lp, ll, le⟩ q
  have fin : ∀ H', Gr P1 P2 H H' → D.nx (sig sc r a l0 ds.length p o m (some (.ref s1)) (some (.ref e1)) x10 x11 x12 x13 x14 x15 x16 x17) H' := fun H' g => q _ _ ⟨sc, r, a, l0, ds, p, o, m, vL, L, s1, e1, vs, ws, _, _, _, _, _, _, _, _, rfl, lp.gr g, ll.gr lp.tb g, le.gr lp.tb g⟩
  have hpm := K06.loaded_perm (p := p) (many := m) (ds := ds) lp.hL
  refine ⟨_, rfl, _, rfl, _, rfl, a, ds, p, m, rfl, ⟨lp.dep, lp.D, lp.tb.t1, lp.per, lp.m0, lp.m6⟩, fun H1 g1 hnil => ?_, fun t H1 g sL g1 hT hsp hg hmin => ?_⟩
  · obtain ⟨eW, lW⟩ := le.gr lp.tb g1
    have key : K06.leastOf (fL ds p o m L) = [] := K06.leastOf_nil.mpr ((perm_nil hpm).mpr hnil)
    rw [key] at lW
    cases lW
    refine ⟨_, rfl, (by decide), fun l2 hl2 => ?_⟩
    have s2 : Same H1 (upd H1 l2 (.lst [])) := same_upd hl2
    refine ⟨.list [], .list [], .lst (SqL.of (s2 _ _ eW)) .nil, .lst (SqL.of (upd_same ..)) .nil, (by decide +kernel), (by decide +kernel), false, ?_, iteF ?_⟩
    · have ev : PyData.eqv (.list []) (.list []) = true := by decide +kernel
      rw [ev]
      rfl
    exact .inl ⟨.non, rfl, .inl rfl, fun H3 sm3 => ⟨true, rfl, iteF (fin H3 ((g1.trans (Gr.same s2)).trans (Gr.same sm3)))⟩⟩
  · obtain ⟨eW, lW⟩ := le.gr lp.tb g1
    have hne : K06.leastOf (fL ds p o m L) ≠ [] := fun z => by
      have h1 := (perm_nil hpm).mp (K06.leastOf_nil.mp z)
      have h2 := (perm_nil hsp).mpr h1
      rw [h2] at hg
      cases hg
    refine ⟨_, rfl, (by decide), fun l2 hl2 => ?_⟩
    have s2 : Same H1 (upd H1 l2 (.lst [])) := same_upd hl2
    have lW2 := lotsV_same s2 lW
    refine ⟨.list ((K06.leastOf (fL ds p o m L)).map dG), .list [], .lst (SqL.of (s2 _ _ eW)) (dp_lots lW2), .lst (SqL.of (upd_same ..)) .nil, shaped_dL _, (by decide +kernel), true, ?_, iteT ?_⟩
    · rw [eqv_list_nil, decide_eq_false hne]
      rfl
    refine ⟨_, rfl, e1, ws, (K06.leastOf (fL ds p o m L)).map dG, rfl, SqL.of (s2 _ _ eW), dp_lots lW2, alikeAll2_dG _, ?_, depth_lots _, fun i v d hv hd hm2 => ?_⟩
    · intro z
      exact hne (List.map_eq_nil_iff.mp z)
    · obtain ⟨g2, hg2, b, rfl, hB⟩ := paired_at lW2 hv
      rw [List.getElem?_map, hg2] at hd
      cases hd
      have eg : g = g2 := K06.fewest_eq (hsp.trans hpm.symm) hg hmin (List.mem_of_getElem? hg2) fun g' hg' z => by
        have := hm2 (dG g') (List.mem_map.mpr ⟨g', hg', rfl⟩)
        rw [lt_dG, decide_eq_true z] at this
        cases this
      subst eg
      have hgl := K06.lot_len (K06.loaded_lots (List.Perm.refl _) (hsp.mem_iff.mp hg))
      have h5 := lp.D.hi
      exact .inr ⟨t, b, g, rfl, Same.tup s2 hT, hB, by omega, fun H3 sm3 => ⟨true, rfl, iteF (fin H3 ((g1.trans (Gr.same s2)).trans (Gr.same sm3)))⟩⟩
theorem st_10 (hr : Room 7 (AL f cdv A s)) (B : Fns P w K mg base P1 P2) : ∃ t, PS (XW P w K mg base f cdv A outer s H0 E) (lawSt 10) t ∧ ∀ (D : Ends) σ H, Pre6 K P1 P2 fL σ H → (∀ σ' H', Pre6 K P1 P2 fL σ' H' → D.nx σ' H') → t D σ H := by
  refine ⟨_, ps_if (pt_not (pt_val (pe_cal B.alike (hr.mono (by omega)) (by rfl) (pa_cons (pe_cal B.loadlots (hr.mono (by omega)) (by rfl) (pa_cons (pv 3) (pa_cons (pv 4) (pa_cons (pv 6) pa_nil)))) (pa_cons (pe_callB call_len_seq (by rfl) B.names.len PySem.boot_len (pa_cons (pv 8) pa_nil)) pa_nil))))) (pss_one (ps_ret pe_bl)) pss_nil, ?_⟩
  rintro D σ H ⟨sc, r, a, l0, ds, p, o, m, vL, L, s1, e1, vs, ws, x10, x11, x12, x13, x14, x15, x16, x17, rfl, lp, ll, le⟩ q
  have fin : ∀ H', Gr P1 P2 H H' → D.nx (sig sc r a l0 ds.length p o m (some (.ref s1)) (some (.ref e1)) x10 x11 x12 x13 x14 x15 x16 x17) H' := fun H' g => q _ _ ⟨sc, r, a, l0, ds, p, o, m, vL, L, s1, e1, vs, ws, _, _, _, _, _, _, _, _, rfl, lp.gr g, ll.gr lp.tb g, le.gr lp.tb g⟩
  have hpm := K06.loaded_perm (p := p) (many := m) (ds := ds) lp.hL
  refine ⟨_, rfl, _, rfl, _, rfl, a, ds, p, m, rfl, ⟨lp.dep, lp.D, lp.tb.t1, lp.per, lp.m0, lp.m6⟩, fun H1 g1 => ?_⟩
  have l1 := ll.gr lp.tb g1
  refine ⟨_, rfl, s1, vs, rfl, .inl (SqL.of l1.1), .inl ⟨.int vs.length, ?_, .inr (.inl ⟨_, rfl⟩), fun H3 sm3 => ⟨true, rfl, iteF (fin H3 (g1.trans (Gr.same sm3)))⟩⟩⟩
  rw [lot_pairs l1.2, ← hpm.length_eq]
  rfl
end
end K06P

set_option maxRecDepth 100000
set_option maxHeartbeats 4000000
/-! The law: the values for shows_fewest_load. -/
namespace K06P
open PySem PySem.Spec PyProof.Rows L2 GxR
theorem upd_at (H : Hp) (a : Addr) (o : HO) : upd H a o a = some o := upd_same ..
theorem any_none (L : List (List Int)) : ((L.map dG).any fun z => PyData.eqv z (.tuple [.none])) = false := by
  rw [List.any_eq_false]
  intro z hz
  obtain ⟨g, _, rfl⟩ := List.mem_map.mp hz
  match g with
  | [] => simp [PyData.eqv, PyData.eqvAll]
  | [x] => simp [PyData.eqv, PyData.eqvAll]
  | x :: y :: r => simp [PyData.eqv, PyData.eqvAll]
theorem bool_iff {b : Bool} {P : Prop} [Decidable P] (h : b = true ↔ P) : b = decide P := by
  cases b with
  | true => exact (decide_eq_true (h.mp rfl)).symm
  | false => exact (decide_eq_false fun z => by have := h.mpr z; cases this).symm
section
variable {P : Program} {w : World} {K : PySem.W.Frag} {mg : Str → Option Value} {base : Heap} {P1 P2 : Addr} {f : Addr} {cdv : Value} {A : Around} {outer : List Env} {s : Shared} {H0 : Hp} {E : XK}
inductive VC (K : PySem.W.Frag) (H : Hp) : V → Prop
  | lot (b : Addr) (g : List Int) (h : SqT K H b (g.map V.int)) (hl : g.length ≤ 6) : VC K H (.ref b)
  | none : VC K H .non
  | other (x : V) (h : NotTup H x) : VC K H x
  | nonT (b : Addr) (h : SqT K H b [.non]) : VC K H (.ref b)
theorem VC.gr {H H' : Hp} {x : V} (h : VC K H x) (t : Tb P1 P2 H) (g : Gr P1 P2 H H') : VC K H' x := by
  cases h with
  | lot b l h hl => exact .lot b l (g.tup t h) hl
  | none => exact .none
  | other x h => exact .other x (notTup_gr g t h)
  | nonT b h => exact .nonT b (g.tup t h)
theorem st_11 (hr : Room 7 (AL f cdv A s)) (B : Fns P w K mg base P1 P2) : ∃ t, PS (XW P w K mg base f cdv A outer s H0 E) (lawSt 11) t ∧ ∀ (D : Ends) σ H, Pre6 K P1 P2 fL σ H → (∀ σ' H', Pre4 K P1 P2 σ' H' → D.nx σ' H') → t D σ H := by
  refine ⟨_, ps_for PassesOwn.never rfl (pi_list (pe_op op_cat (pv 7) (pe_lst (pa_cons pe_non (pa_cons pe_int (pa_cons (pe_listRg rfl (by rfl) B.names.list (prg_1 (by rfl) B.names.range (pv 2))) (pa_cons (pe_tup (pa_cons (pv 2) pa_nil)) (pa_cons (pe_tup (pa_cons pe_non pa_nil)) pa_nil)))))))) (pg_name (i := 10) scLaw.nd rfl (Or.inl rfl))
    (pss_cons (ps_set (i := 11) scLaw.nd rfl (Or.inl rfl) (pe_ifExp (pt_cmpR op_isN (pv 10) pe_non (nomark _)) (pe_cmpR (op_eqD (hu64 hr)) (pv 9) (pe_lst pa_nil) (nomark _))
      (pe_and (pe_callB call_isi (by rfl) B.names.isinstance (by decide +kernel) (pa_cons (pv 10) (pa_cons (pe_bltn (v := .ty "tuple") (by rfl) B.names.tuple (by decide +kernel) rfl) pa_nil))) (pe_one (pe_cmpR (op_inD (hu65 hr)) (pv 10) (pv 9) (by with_unfolding_all rfl))))))
    (pss_one (ps_if (pt_not (pt_val (pe_cal B.alike (hr.mono (by omega)) (by rfl) (pa_cons (pe_cal B.showsf (hr.mono (by omega)) (by rfl) (pa_cons (pv 3) (pa_cons (pv 4) (pa_cons (pv 6) (pa_cons (pv 10) pa_nil))))) (pa_cons (pv 11) pa_nil))))) (pss_one (ps_ret pe_bl)) pss_nil))), ?_⟩
  rintro D σ H ⟨sc, r, a, l0, ds, p, o, m, vL, L, s1, e1, vs, ws, x10, x11, x12, x13, x14, x15, x16, x17, rfl, lp, ll, le⟩ q
  have hpm := K06.loaded_perm (p := p) (many := m) (ds := ds) lp.hL
  have h5 := lp.D.hi
  have h1' := lp.D.lo
  refine ⟨_, rfl, _, rfl, (ds.length : Int), rfl, ?_, fun q1 hq1 => ⟨_, rfl, (show 1 ≤ sizeLine by decide), fun q2 hq2 => ⟨(show 1 ≤ sizeLine by decide), fun q3 hq3 => ⟨(show 5 ≤ sizeLine by decide), fun l2 hl2 => ?_⟩⟩⟩⟩
  · exact RgOk.of_le (by decide) (by omega) (by decide) (by omega)
  have g1 : Same H (upd H q1 (.lst (rgV 0 ds.length))) := same_upd hq1
  have g2 : Same (upd H q1 (.lst (rgV 0 ds.length))) (upd (upd H q1 (.lst (rgV 0 ds.length))) q2 (.tup [.int ds.length])) := same_upd hq2
  have g3 : Same (upd (upd H q1 (.lst (rgV 0 ds.length))) q2 (.tup [.int ds.length])) (upd (upd (upd H q1 (.lst (rgV 0 ds.length))) q2 (.tup [.int ds.length])) q3 (.tup [.non])) := same_upd hq3
  have c1 := upd_at H q1 (.lst (rgV 0 ds.length))
  have c2 := upd_at (upd H q1 (.lst (rgV 0 ds.length))) q2 (.tup [.int ds.length])
  have c3 := upd_at (upd (upd H q1 (.lst (rgV 0 ds.length))) q2 (.tup [.int ds.length])) q3 (.tup [.non])
  generalize upd H q1 (.lst (rgV 0 ds.length)) = Ha at *
  generalize upd Ha q2 (.tup [.int ds.length]) = Hb at *
  generalize upd Hb q3 (.tup [.non]) = Hc at *
  have s4 : Same Hc (upd Hc l2 (.lst [.non, .int 3, .ref q1, .ref q2, .ref q3])) := same_upd hl2
  have c4 := upd_at Hc l2 (.lst [.non, .int 3, .ref q1, .ref q2, .ref q3])
  generalize upd Hc l2 (.lst [.non, .int 3, .ref q1, .ref q2, .ref q3]) = Hd at *
  have sd : Same H Hd := Same.trans' g1 (Same.trans' g2 (Same.trans' g3 s4))
  have lpd := lp.gr (Gr.same sd)
  have hvL := lot_pairs lpd.lv
  have h32 := lpd.len
  refine ⟨l0, l2, vL, _, rfl, rfl, lpd.l0, c4, Nat.le_of_lt (line1000 (by simp only [List.length_cons, List.length_nil]; omega)), fun lc hlc => ?_⟩
  have s5 : Same Hd (upd Hd lc (.lst (vL ++ [.non, .int 3, .ref q1, .ref q2, .ref q3]))) := same_upd hlc
  have c5 := upd_at Hd lc (.lst (vL ++ [.non, .int 3, .ref q1, .ref q2, .ref q3]))
  generalize upd Hd lc (.lst (vL ++ [.non, .int 3, .ref q1, .ref q2, .ref q3])) = He at *
  have se : Same H He := Same.trans' sd s5
  have lpe := lp.gr (Gr.same se)
  have lle := le.gr lp.tb (Gr.same se)
  have hvc : ∀ v ∈ vL ++ [.non, .int 3, .ref q1, .ref q2, .ref q3], VC K He v := by
    intro v hv
    rcases List.mem_append.mp hv with hv | hv
    · obtain ⟨g, hg, b, rfl, hB⟩ := paired_mem lpe.lv hv
      have := K06.lot_len (lp.hL.mem_iff.mp hg)
      exact .lot b g hB (by omega)
    · rcases List.mem_cons.mp hv with rfl | hv
      · exact .none
      rcases List.mem_cons.mp hv with rfl | hv
      · exact .other _ (.inl ⟨3, rfl⟩)
      rcases List.mem_cons.mp hv with rfl | hv
      · exact .other _ (.inr ⟨q1, _, rfl, s5 _ _ (s4 _ _ (g3 _ _ (g2 _ _ c1)))⟩)
      rcases List.mem_cons.mp hv with rfl | hv
      · exact .lot q2 [(ds.length : Int)] (SqT.of (s5 _ _ (s4 _ _ (g3 _ _ c2)))) (by simp only [List.length_cons, List.length_nil]; omega)
      rcases List.mem_cons.mp hv with rfl | hv
      · exact .nonT q3 (SqT.of (s5 _ _ (s4 _ _ c3)))
      · cases hv
  refine ⟨lc, rfl, ⟨_, SqL.of c5⟩, for_list (K := K) (xs := vL ++ [.non, .int 3, .ref q1, .ref q2, .ref q3]) (fun i σ H' => (∃ x10 x11, σ = sig sc r a l0 ds.length p o m (some (.ref s1)) (some (.ref e1)) x10 x11 x12 x13 x14 x15 x16 x17) ∧ Gr P1 P2 He H') ⟨⟨_, _, rfl⟩, Gr.refl _⟩ (fun i σ H' _ h => SqL.of (h.2.at lpe.tb c5 (fun _ z => by cases z))) (fun i v σ H' hv h => ?_) (fun σ H' h => ?_)⟩
  · obtain ⟨⟨y10, y11, rfl⟩, gr⟩ := h
    have vc := (hvc v (List.mem_of_getElem? hv)).gr lpe.tb gr
    have lp' := lpe.gr gr
    have le' := lle.gr lpe.tb gr
    have ask : Ask K P1 H' a ds p m := ⟨lp'.dep, lp'.D, lp'.tb.t1, lp'.per, lp'.m0, lp'.m6⟩
    have fin : ∀ (H2 : Hp) (due : Bool), Gr P1 P2 H' H2 → ∀ H3, Same H2 H3 → ((∃ x10 x11, sig sc r a l0 ds.length p o m (some (.ref s1)) (some (.ref e1)) (some v) (some (.bl due)) x12 x13 x14 x15 x16 x17 = sig sc r a l0 ds.length p o m (some (.ref s1)) (some (.ref e1)) x10 x11 x12 x13 x14 x15 x16 x17) ∧ Gr P1 P2 He H3) := fun H2 due g H3 s3 => ⟨⟨_, _, rfl⟩, (gr.trans g).trans (Gr.same s3)⟩
    cases vc with
    | lot b g hB hgl =>
      refine ⟨_, rfl, rfl, false, ?_, iteF ?_⟩
      · rw [decide_eq_false (show ¬ V.ref b = .non from fun z => by cases z)]
      refine ⟨_, rfl, .ref b, .ty "tuple", .type "tuple", .type "tuple", true, rfl, .ty _, tyTup hB, kit_ty (by decide +kernel), true, rfl, iteT ?_⟩
      refine ⟨_, rfl, _, rfl, dG g, (K06.leastOf (fL ds p o m L)).map dG, dp_lot hB, .lst (SqL.of le'.1) (dp_lots le'.2), shaped_dG g, shaped_dL _, ?_⟩
      rw [any_dG]
      refine ⟨_, rfl, _, rfl, _, rfl, _, rfl, a, ds, p, m, .ref b, rfl, ask, lp'.tb.t2, .inr (.inl ⟨b, _, rfl, hB, (by rw [List.length_map]; omega), fun x hx => ?_, fun H2 bb g2 hbb => ?_⟩)⟩
      · obtain ⟨i, _, rfl⟩ := List.mem_map.mp hx
        exact .inl ⟨i, rfl⟩
      · have e : bb = decide (g ∈ K06.leastOf (fL ds p o m L)) := bool_iff (hbb.trans ⟨fun ⟨g', e, h⟩ => by rw [map_int_inj e]; exact (K06.leastOf_perm hpm g').mpr h, fun h => ⟨g, rfl, (K06.leastOf_perm hpm g).mp h⟩⟩)
        refine ⟨_, rfl, .inl ⟨.bl bb, (by rw [e]; rfl), .inr (.inr ⟨bb, rfl⟩), fun H3 sm3 => ⟨true, rfl, iteF (fin H2 _ g2 H3 sm3)⟩⟩⟩
    | none =>
      refine ⟨_, rfl, rfl, true, ?_, iteT ?_⟩
      · rw [decide_eq_true rfl]
      refine ⟨_, rfl, (by decide), fun l3 hl3 => ?_⟩
      have s3 : Same H' (upd H' l3 (.lst [])) := same_upd hl3
      have le3 := le'.gr lp'.tb (Gr.same s3)
      have ask3 : Ask K P1 (upd H' l3 (.lst [])) a ds p m := ⟨Same.tup s3 ask.s, ask.d, (Gr.same (P1 := P1) (P2 := P2) s3).t1 ask.t, ask.p, ask.m0, ask.m6⟩
      refine ⟨.list ((K06.leastOf (fL ds p o m L)).map dG), .list [], .lst (SqL.of le3.1) (dp_lots le3.2), .lst (SqL.of (upd_same ..)) .nil, shaped_dL _, (by decide +kernel), ?_⟩
      rw [eqv_list_nil]
      refine ⟨_, rfl, _, rfl, _, rfl, _, rfl, a, ds, p, m, .non, rfl, ask3, (Gr.same (P1 := P1) (P2 := P2) s3).t2 lp'.tb.t2, .inl ⟨rfl, fun H2 bb g2 hbb => ?_⟩⟩
      have e : bb = decide (K06.leastOf (fL ds p o m L) = []) := bool_iff (hbb.trans ((perm_nil hpm).symm.trans K06.leastOf_nil.symm))
      refine ⟨_, rfl, .inl ⟨.bl bb, (by rw [e]; rfl), .inr (.inr ⟨bb, rfl⟩), fun H3 sm3 => ⟨true, rfl, iteF (fin H2 _ ((Gr.same s3).trans g2) H3 sm3)⟩⟩⟩
    | other x hx =>
      have hnn : ¬ v = .non := by
        rintro rfl
        rcases hx with ⟨i, z⟩ | ⟨c, xs, z, _⟩ <;> cases z
      obtain ⟨ty, h1, h2⟩ := notTup_ty (K := K) hx
      refine ⟨_, rfl, rfl, false, ?_, iteF ?_⟩
      · rw [decide_eq_false hnn]
      refine ⟨_, rfl, v, .ty "tuple", .type ty, .type "tuple", false, rfl, .ty _, h1, kit_ty h2, false, rfl, iteF ?_⟩
      refine ⟨_, rfl, _, rfl, _, rfl, _, rfl, a, ds, p, m, v, rfl, ask, lp'.tb.t2, .inr (.inr ⟨hx, fun H2 g2 => ?_⟩)⟩
      refine ⟨_, rfl, .inl ⟨.bl false, rfl, .inr (.inr ⟨_, rfl⟩), fun H3 sm3 => ⟨true, rfl, iteF (fin H2 _ g2 H3 sm3)⟩⟩⟩
    | nonT b hB =>
      refine ⟨_, rfl, rfl, false, ?_, iteF ?_⟩
      · rw [decide_eq_false (show ¬ V.ref b = .non from fun z => by cases z)]
      refine ⟨_, rfl, .ref b, .ty "tuple", .type "tuple", .type "tuple", true, rfl, .ty _, tyTup hB, kit_ty (by decide +kernel), true, rfl, iteT ?_⟩
      refine ⟨_, rfl, _, rfl, .tuple [.none], (K06.leastOf (fL ds p o m L)).map dG, .tup hB (.cons .non .nil), .lst (SqL.of le'.1) (dp_lots le'.2), (by decide +kernel), shaped_dL _, ?_⟩
      rw [any_none]
      refine ⟨_, rfl, _, rfl, _, rfl, _, rfl, a, ds, p, m, .ref b, rfl, ask, lp'.tb.t2, .inr (.inl ⟨b, _, rfl, hB, (by decide), fun x hx => ?_, fun H2 bb g2 hbb => ?_⟩)⟩
      · have : x = .non := by simpa using hx
        exact .inr this
      · have e : bb = false := by
          cases bb with
          | false => rfl
          | true =>
            obtain ⟨g', e, _⟩ := hbb.mp rfl
            cases g' with
            | nil => cases e
            | cons x r => cases e
        subst e
        refine ⟨_, rfl, .inl ⟨.bl false, rfl, .inr (.inr ⟨_, rfl⟩), fun H3 sm3 => ⟨true, rfl, iteF (fin H2 _ g2 H3 sm3)⟩⟩⟩
  · obtain ⟨⟨y10, y11, rfl⟩, gr⟩ := h
    exact q _ _ ⟨sc, r, a, l0, ds, p, o, m, vL, L, _, _, _, _, _, _, _, _, _, _, rfl, lpe.gr gr⟩
end
end K06P

set_option maxRecDepth 100000
set_option maxHeartbeats 4000000
/-! The law: the tops, the best, the found. -/
namespace K06P
open PySem PySem.Spec PyProof.Rows L2 GxR
abbrev scTop : Scope := { kind := .function, names := [((".0" : Str), .local), (("_law_lot_here" : Str), .cell), (("max" : Str), .globalImplicit), (("range" : Str), .globalImplicit), (("_law_deputies_here" : Str), .cell), (("_law_size" : Str), .cell)], isGenerator := false, isCoroutine := false }
section
variable {P : Program} {w : World} {K : PySem.W.Frag} {mg : Str → Option Value} {base : Heap} {P1 P2 : Addr} {f : Addr} {cdv : Value} {A : Around} {outer : List Env} {s : Shared} {H0 : Hp} {E : XK}
def Pre13 (K : PySem.W.Frag) (P1 P2 : Addr) : L2.St → Hp → Prop := fun σ H => ∃ (sc r a l0 : Addr) (ds : List Int) (p o m : Int) (vL : List V) (L : List (List Int)) (t1 : Addr) (x8 x9 x10 x11 x13 x14 x15 x16 x17 : Option V), σ = sig sc r a l0 ds.length p o m x8 x9 x10 x11 (some (.ref t1)) x13 x14 x15 x16 x17 ∧ LP K P1 P2 a l0 ds p o m vL L H ∧ H t1 = some (.lst ((L.map (K06.top ds)).map V.int))
theorem st_12 (hr : Room 7 (AL f cdv A s)) (B : Fns P w K mg base P1 P2) : ∃ t, PS (XW P w K mg base f cdv A outer s H0 E) (lawSt 12) t ∧ ∀ (D : Ends) σ H, Pre4 K P1 P2 σ H → (∀ σ' H', Pre13 K P1 P2 σ' H' → D.nx σ' H') → t D σ H := by
  refine ⟨_, ps_set (i := 12) scLaw.nd rfl (Or.inr rfl) (pe_lc (own := [("_law_lot_here", 15)]) (g := gName 15) (tt := tYes)
    (te := tCB (rMax K) (tCons (tLc (iRng1 (tCons (tVar 2) tNil)) (gName 17) tYes (tBM K "list" (rCntI K) (tCall (spHolders K) [] E0 (tCons (tVar 3) (tCons (tVar 15) tNil))) (tCons (tVar 17) tNil)) [17]) tNil)) rfl scLaw.nd (pi_list (pv 7))
    (blkOk_by (N := lawN) (sc := defScope sLaw) (by decide +kernel)) (fun _ _ _ _ _ => pg_name (i := 15) scLaw.nd rfl (Or.inr rfl)) (fun _ _ _ _ _ => pts_nil) (fun _ _ _ _ _ => pe_callB (cr_max rfl) (by rfl) B.names.max boot_max (pa_cons
      (pe_lc (own := [("_law_k", 17)]) (g := gName 17) (tt := tYes) (te := (tBM K "list" (rCntI K) (tCall (spHolders K) [] E0 (tCons (tVar 3) (tCons (tVar 15) tNil))) (tCons (tVar 17) tNil))) rfl scLaw.nd (pi_range1 (by rfl) B.names.range (pa_cons (pv 2) pa_nil)) (blkOk_by (N := lawN) (sc := scTop) (by decide +kernel)) (fun _ _ _ _ _ => pg_name (i := 17) scLaw.nd rfl (Or.inl rfl)) (fun _ _ _ _ _ => pts_nil)
        (fun _ _ _ _ _ => pe_bm PySem.F.plainAttrs_list PySem.F.slot_list_count PySem.F.type_list_count mt_lcount (pe_cal B.lholders (hr.mono (by omega)) (by rfl) (pa_cons (pv 3) (pa_cons (pv 15) pa_nil))) (pa_cons (pv 17) pa_nil))) pa_nil))), ?_⟩
  rintro D σ H ⟨sc, r, a, l0, ds, p, o, m, vL, L, x8, x9, x10, x11, x12, x13, x14, x15, x16, x17, rfl, lp⟩ q
  have h5 := lp.D.hi
  have h32 := lp.len
  have hvL := lot_pairs lp.lv
  have b62 := len62 (n := ds.length) (by omega)
  refine ⟨_, rfl, l0, rfl, ⟨_, SqL.of lp.l0⟩, fun D0 hD0 => ?_⟩
  refine lc_list (K := K) (xs := vL) (fun i H' => Same H H' ∧ H' D0 = some (.lst (((L.take i).map (K06.top ds)).map V.int))) ⟨same_upd hD0, upd_same ..⟩ (fun j H' _ h => SqL.of (h.1 _ _ lp.l0)) (fun i v H' hv h => ?_) (fun H' h => ?_)
  · obtain ⟨sm, eD⟩ := h
    obtain ⟨g, hg, b, rfl, hB⟩ := paired_at lp.lv hv
    refine ⟨rfl, _, rfl, _, rfl, b62.1, b62.2, fun D1 hD1 => ?_⟩
    refine lc_range (n := ((ds.length : Int)).toNat) (fun i H2 => Same H' H2 ∧ H2 D1 = some (.lst (((List.range i).map fun i => V.int ((K06.load ds g (i : Nat) : Nat) : Int))))) ⟨same_upd hD1, upd_same ..⟩ (fun i H2 hi h => ?_) (fun H2 h => ?_)
    · obtain ⟨sm2, e⟩ := h
      have s3 := Same.trans' sm sm2
      refine ⟨rfl, _, rfl, _, rfl, a, b, ds, g, rfl, Same.tup s3 lp.dep, Same.tup s3 hB, lp.D, fun l4 H4 hl4 sm4 e4 => ?_⟩
      refine ⟨.inl ⟨rfl, _, SqL.of e4⟩, _, rfl, l4, _, _, rfl, rfl, SqL.of e4, ?_⟩
      refine ⟨_, sm4 _ _ e, line1000 (by rw [List.length_map, List.length_range]; omega), same_upd2 (Same.trans' sm2 sm4) hD1, ?_⟩
      rw [upd_same, range_next, show (0 : Int) + (i : Nat) = (i : Nat) by omega]
      rfl
    · obtain ⟨sm2, e⟩ := h
      have e' : H2 D1 = some (.lst ((K06.counts ds g).map V.int)) := by
        rw [e, show ((ds.length : Int)).toNat = ds.length by omega]
        show _ = some (HO.lst (((List.range ds.length).map fun i => ((K06.load ds g (i : Nat) : Nat) : Int)).map V.int))
        rw [List.map_map]
        rfl
      refine ⟨D1, _, rfl, SqL.of e', K06.counts_ne lp.D, fun mm h1 h2 => ?_⟩
      have := K06.maxI_eq h1 h2
      subst this
      refine ⟨_, sm2 _ _ eD, line1000 (by rw [List.length_map, List.length_map, List.length_take]; omega), same_upd2 (Same.trans' sm sm2) hD0, ?_⟩
      rw [upd_same, take_next hg, List.map_append, List.map_append]
      rfl
  · obtain ⟨sm, eD⟩ := h
    rw [hvL, List.take_length] at eD
    exact q _ _ ⟨sc, r, a, l0, ds, p, o, m, vL, L, D0, x8, x9, x10, x11, x13, x14, x15, x16, x17, rfl, lp.gr (Gr.same sm), eD⟩
def Pre14 (K : PySem.W.Frag) (P1 P2 : Addr) : L2.St → Hp → Prop := fun σ H => ∃ (sc r a l0 : Addr) (ds : List Int) (p o m : Int) (vL : List V) (L : List (List Int)) (t1 : Addr) (x8 x9 x10 x11 x14 x15 x16 x17 : Option V), σ = sig sc r a l0 ds.length p o m x8 x9 x10 x11 (some (.ref t1)) (some (.int (K06.best ds m (K06.lots ds.length)))) x14 x15 x16 x17 ∧ LP K P1 P2 a l0 ds p o m vL L H ∧ H t1 = some (.lst ((L.map (K06.top ds)).map V.int))
theorem ints_at {l : List Int} {i : Nat} {x : Int} (h : l[i]? = some x) : atI (l.map V.int) (i : Int) = some (.int x) := by
  refine atI_nat ?_
  rw [List.getElem?_map, h]
  rfl
theorem st_13 (hr : Room 7 (AL f cdv A s)) (B : Fns P w K mg base P1 P2) : ∃ t, PS (XW P w K mg base f cdv A outer s H0 E) (lawSt 13) t ∧ ∀ (D : Ends) σ H, Pre13 K P1 P2 σ H → (∀ σ' H', Pre14 K P1 P2 σ' H' → D.nx σ' H') → t D σ H := by
  refine ⟨_, ps_set (i := 13) scLaw.nd rfl (Or.inr rfl) (pe_callB (cr_max rfl) (by rfl) B.names.max boot_max (pa_cons (pe_lc (own := [("_law_k", 17)]) (g := gName 17) (tt := tTest (tOp (rI0 fun i j => .bl (decide (i ≤ j))) (tCB (fun xs H Q => ∃ p ys, xs = [.ref p] ∧ (SqL K H p ys ∨ SqT K H p ys) ∧ Q (.int ys.length) H) (tCons (tOp (rIxL K) (tVar 7) (tVar 17)) tNil)) (tVar 6)))
    (te := tOp (rIxL K) (tVar 12) (tVar 17)) rfl scLaw.nd (pi_range1 (by rfl) B.names.range (pa_cons (pe_callB call_len_seq (by rfl) B.names.len PySem.boot_len (pa_cons (pv 7) pa_nil)) pa_nil))
    (blkOk_by (N := lawN) (sc := defScope sLaw) (by decide +kernel)) (fun _ _ _ _ _ => pg_name (i := 17) scLaw.nd rfl (Or.inl rfl)) (fun _ _ _ _ _ => pts_one (pt_cmpR op_le (pe_callB call_len_seq (by rfl) B.names.len PySem.boot_len (pa_cons (pe_ix ix_list (pv 7) (pv 17) (fun _ _ => rfl)) pa_nil)) (pv 6) (nomark _))) (fun _ _ _ _ _ => pe_ix ix_list (pv 12) (pv 17) (fun _ _ => rfl))) pa_nil)), ?_⟩
  rintro D σ H ⟨sc, r, a, l0, ds, p, o, m, vL, L, t1, x8, x9, x10, x11, x13, x14, x15, x16, x17, rfl, lp, et⟩ q
  have h32 := lp.len
  have hvL := lot_pairs lp.lv
  have b62 := len62 (n := vL.length) (by omega)
  refine ⟨_, rfl, l0, _, rfl, .inl (SqL.of lp.l0), _, rfl, b62.1, b62.2, fun D0 hD0 => ?_⟩
  refine lc_range (n := ((vL.length : Int)).toNat) (fun i H' => Same H H' ∧ H' D0 = some (.lst (((K06.small m (L.take i)).map (K06.top ds)).map V.int))) ⟨same_upd hD0, upd_same ..⟩ (fun i H' hi h => ?_) (fun H' h => ?_)
  · obtain ⟨sm, eD⟩ := h
    obtain ⟨g, hg⟩ : ∃ g, L[i]? = some g := ⟨_, List.getElem?_eq_getElem (show i < L.length by omega)⟩
    obtain ⟨v, hv⟩ : ∃ v, vL[i]? = some v := ⟨_, List.getElem?_eq_getElem (show i < vL.length by omega)⟩
    obtain ⟨g', hg', b, rfl, hB⟩ := paired_at lp.lv hv
    rw [hg] at hg'
    cases hg'
    have hi0 : (0 : Int) + (i : Nat) = (i : Nat) := by omega
    refine ⟨rfl, _, rfl, _, rfl, l0, _, _, _, rfl, rfl, SqL.of (sm _ _ lp.l0), (by rw [hi0]; exact atI_nat hv), b, _, rfl, .inr (Same.tup sm hB), _, rfl, ((g.map V.int).length : Int), m, rfl, rfl, _, rfl, ?_⟩
    rw [List.length_map]
    have hle : (K06.small m (L.take i)).length ≤ 32 := by
      refine Nat.le_trans (List.length_filter_le _ _) ?_
      rw [List.length_take]
      omega
    by_cases hlm : (g.length : Int) ≤ m
    · rw [decide_eq_true hlm]
      have htop : (L.map (K06.top ds))[i]? = some (K06.top ds g) := by
        rw [List.getElem?_map, hg]
        rfl
      refine iteT ⟨_, rfl, _, rfl, t1, _, _, _, rfl, rfl, SqL.of (sm _ _ et), (by rw [hi0]; exact ints_at htop), _, eD, line1000 (by rw [List.length_map, List.length_map]; omega), same_upd2 sm hD0, ?_⟩
      rw [upd_same, take_next hg, small_snoc, decide_eq_true hlm, if_pos rfl, List.map_append, List.map_append]
      rfl
    · rw [decide_eq_false hlm]
      refine iteF ⟨sm, ?_⟩
      rw [take_next hg, small_snoc, decide_eq_false hlm, if_neg (by decide), List.append_nil]
      exact eD
  · obtain ⟨sm, eD⟩ := h
    rw [show ((vL.length : Int)).toNat = L.length by omega, List.take_length] at eD
    refine ⟨D0, _, rfl, SqL.of eD, ?_, fun mm h1 h2 => ?_⟩
    · rw [List.length_map]
      exact List.length_pos_of_mem (K06.small_ne lp.hL lp.m0)
    · have e := K06.maxI_eq h1 h2
      have e2 : mm = K06.best ds m (K06.lots ds.length) := e.trans (K06.best_perm lp.hL lp.hL lp.m0)
      subst e2
      exact q _ _ ⟨sc, r, a, l0, ds, p, o, m, vL, L, t1, x8, x9, x10, x11, x14, x15, x16, x17, rfl, lp.gr (Gr.same sm), sm _ _ et⟩
def Pre15 (K : PySem.W.Frag) (P1 P2 : Addr) : L2.St → Hp → Prop := fun σ H => ∃ (sc r a l0 : Addr) (ds : List Int) (p o m : Int) (vL : List V) (L : List (List Int)) (t1 fo b : Addr) (g : List Int) (x8 x9 x10 x11 x15 x16 x17 : Option V), σ = sig sc r a l0 ds.length p o m x8 x9 x10 x11 (some (.ref t1)) (some (.int (K06.best ds m (K06.lots ds.length)))) (some (.ref fo)) x15 x16 x17 ∧ LP K P1 P2 a l0 ds p o m vL L H ∧ H t1 = some (.lst ((L.map (K06.top ds)).map V.int)) ∧
  SqT K H fo [.int (K06.best ds m (K06.lots ds.length)), .ref b] ∧ SqT K H b (g.map V.int) ∧ g ∈ L ∧ (g.length : Int) ≤ m ∧ K06.top ds g = K06.best ds m (K06.lots ds.length)
theorem st_14 (hr : Room 7 (AL f cdv A s)) (B : Fns P w K mg base P1 P2) : ∃ t, PS (XW P w K mg base f cdv A outer s H0 E) (lawSt 14) t ∧ ∀ (D : Ends) σ H, Pre14 K P1 P2 σ H → (∀ σ' H', Pre15 K P1 P2 σ' H' → D.nx σ' H') → t D σ H := by
  refine ⟨_, ps_set (i := 14) scLaw.nd rfl (Or.inl rfl) (pe_cal B.greatest hr (by rfl) (pa_cons (pv 3) (pa_cons (pv 6) pa_nil))), ?_⟩
  rintro D σ H ⟨sc, r, a, l0, ds, p, o, m, vL, L, t1, x8, x9, x10, x11, x14, x15, x16, x17, rfl, lp, et⟩ q
  refine ⟨_, rfl, _, rfl, a, ds, m, rfl, ⟨lp.dep, lp.D, lp.tb.t1, lp.m0, lp.m6⟩, fun t b H' g gr h1 h2 h3 h4 h5 => ?_⟩
  exact q _ _ ⟨sc, r, a, l0, ds, p, o, m, vL, L, t1, t, b, g, x8, x9, x10, x11, x15, x16, x17, rfl, lp.gr gr, gr.at lp.tb et (fun _ z => by cases z), h1, h2, lp.hL.mem_iff.mpr h3, h4, h5⟩
end
end K06P

set_option maxRecDepth 100000
set_option maxHeartbeats 4000000
/-! The law: the greatest load. -/
namespace K06P
open PySem PySem.Spec PyProof.Rows L2 GxR
theorem first_at : ∀ (L : List (List Int)) (g : List Int), g ∈ L → ∃ j, L[j]? = some g ∧ ∀ (m : Nat) (z : List Int), m < j → L[m]? = some z → z ≠ g
  | x :: r, g, h => by
    by_cases e : x = g
    · exact ⟨0, by rw [e]; rfl, fun m z h => by omega⟩
    · rcases List.mem_cons.mp h with h | h
      · exact absurd h.symm e
      · obtain ⟨j, h1, h2⟩ := first_at r g h
        refine ⟨j + 1, h1, fun m z hm hz => ?_⟩
        cases m with
        | zero =>
          have : x = z := by simpa using hz
          rw [← this]
          exact e
        | succ m => exact h2 m z (by omega) hz
section
variable {P : Program} {w : World} {K : PySem.W.Frag} {mg : Str → Option Value} {base : Heap} {P1 P2 : Addr} {f : Addr} {cdv : Value} {A : Around} {outer : List Env} {s : Shared} {H0 : Hp} {E : XK}
/-- lots.index(g), read in tops -/
theorem index_read {H : Hp} {l0 t1 e : Addr} {vL : List V} {L : List (List Int)} {g : List Int} {tp : List Int → Int} {Q : VK} (h0 : H l0 = some (.lst vL)) (lv : LotsV K H vL L) (ht : H t1 = some (.lst ((L.map tp).map V.int))) (hE : SqT K H e (g.map V.int)) (hg : g ∈ L) (q : Q (.int (tp g)) H) :
    rIndexD K (.ref l0) [.ref e] H fun y H2 => rIxL K (.ref t1) y H2 Q := by
  obtain ⟨j, hj, hno⟩ := first_at L g hg
  refine ⟨l0, .ref e, dG g, L.map dG, j, dG g, rfl, rfl, .lst (SqL.of h0) (dp_lots lv), dp_lot hE, shaped_dL L, shaped_dG g, ?_, ?_, ?_, t1, _, _, _, rfl, rfl, SqL.of ht, ints_at (?_ : _ = some (tp g)), q⟩
  · rw [List.getElem?_map, hj]
    rfl
  · rw [eqv_dG, decide_eq_true rfl]
  · intro m z hm hz
    rw [List.getElem?_map] at hz
    cases hc : L[m]? with
    | none => rw [hc] at hz; cases hz
    | some c =>
      rw [hc] at hz
      cases hz
      rw [eqv_dG]
      exact decide_eq_false (hno m c hm hc)
  · rw [List.getElem?_map, hj]
    rfl
theorem st_15 (hr : Room 7 (AL f cdv A s)) (B : Fns P w K mg base P1 P2) : ∃ t, PS (XW P w K mg base f cdv A outer s H0 E) (lawSt 15) t ∧ ∀ (D : Ends) σ H, Pre15 K P1 P2 σ H → (∀ σ' H', Pre15 K P1 P2 σ' H' → D.nx σ' H') → t D σ H := by
  refine ⟨_, ps_if (PW.pt (pw_or (pt_not (pt_val (pe_callB call_isi (by rfl) B.names.isinstance (by decide +kernel) (pa_cons (pv 14) (pa_cons (pe_bltn (v := .ty "tuple") (by rfl) B.names.tuple (by decide +kernel) rfl) pa_nil))))) (pw_or (pt_cmpR op_ne (pe_callB call_len_seq (by rfl) B.names.len PySem.boot_len (pa_cons (pv 14) pa_nil)) pe_int (nomark _)) (pw_or (pt_cmpR op_ne (pe_ix ix_tup (pv 14) pe_int (fun _ _ => rfl)) (pv 13) (nomark _)) (pw_or (pt_cmpR (op_notInD (hu65 hr)) (pe_ix ix_tup (pv 14) pe_int (fun _ _ => rfl)) (pv 7) (by with_unfolding_all rfl))
    (pw_or (pt_cmpR op_gt (pe_callB call_len_seq (by rfl) B.names.len PySem.boot_len (pa_cons (pe_ix ix_tup (pv 14) pe_int (fun _ _ => rfl)) pa_nil)) (pv 6) (nomark _)) (pw_or1 (pt_cmpR op_ne (pe_ix ix_list (pv 12) (pe_bm PySem.F.plainAttrs_list PySem.F.slot_list_index PySem.F.type_list_index (mt_indexD (hu65 hr)) (pv 7) (pa_cons (pe_ix ix_tup (pv 14) pe_int (fun _ _ => rfl)) pa_nil)) (fun _ _ => rfl)) (pv 13) (nomark _))))))))) (pss_one (ps_ret pe_bl)) pss_nil, ?_⟩
  rintro D σ H ⟨sc, r, a, l0, ds, p, o, m, vL, L, t1, fo, b, g, x8, x9, x10, x11, x15, x16, x17, rfl, lp, et, hF, hB, hg, hgm, htop⟩ q
  refine ⟨_, rfl, .ref fo, .ty "tuple", .type "tuple", .type "tuple", true, rfl, .ty _, tyTup hF, kit_ty (by decide +kernel), true, rfl, iteF ?_⟩
  refine ⟨_, rfl, fo, _, rfl, .inr hF, rfl, false, ?_, iteF ?_⟩
  · show V.bl (!decide (V.int 2 = V.int 2)) = _
    rw [decide_eq_true rfl]
    rfl
  refine ⟨_, rfl, fo, _, 0, _, rfl, rfl, hF, rfl, _, rfl, rfl, false, ?_, iteF ?_⟩
  · rw [decide_eq_true rfl]
    rfl
  refine ⟨_, rfl, fo, _, 1, _, rfl, rfl, hF, rfl, .ref l0, rfl, dG g, L.map dG, dp_lot hB, .lst (SqL.of lp.l0) (dp_lots lp.lv), shaped_dG g, shaped_dL L, false, ?_, iteF ?_⟩
  · rw [any_dG, decide_eq_true hg]
    rfl
  refine ⟨_, rfl, fo, _, 1, _, rfl, rfl, hF, rfl, b, _, rfl, .inr hB, .int m, rfl, _, m, rfl, rfl, false, ?_, iteF ?_⟩
  · rw [List.length_map]
    show V.bl (decide (m < (g.length : Int))) = _
    rw [decide_eq_false (by omega)]
  refine ⟨_, rfl, _, rfl, .inl ⟨rfl, _, SqL.of lp.l0⟩, _, rfl, fo, _, 1, _, rfl, rfl, hF, rfl, ?_⟩
  unfold tNil
  refine index_read (tp := K06.top ds) lp.l0 lp.lv et hB hg ⟨_, rfl, rfl, false, ?_, iteF ?_⟩
  · rw [htop, decide_eq_true rfl]
    rfl
  exact q _ _ ⟨sc, r, a, l0, ds, p, o, m, vL, L, t1, fo, b, g, x8, x9, x10, x11, x15, x16, x17, rfl, lp, et, hF, hB, hg, hgm, htop⟩
inductive VG (K : PySem.W.Frag) (H : Hp) : V → Prop
  | pair (c e : Addr) (x : Int) (g : List Int) (h : SqT K H c [.int x, .ref e]) (h2 : SqT K H e (g.map V.int)) (hl : g.length ≤ 6) : VG K H (.ref c)
  | plist (c : Addr) (x : Int) (y : V) (h : SqT K H c [.int x, y]) (h2 : NotTup H y) : VG K H (.ref c)
  | none : VG K H .non
  | other (x : V) (h : NotTup H x) : VG K H x
theorem VG.gr {H H' : Hp} {x : V} (h : VG K H x) (t : Tb P1 P2 H) (g : Gr P1 P2 H H') : VG K H' x := by
  cases h with
  | pair c e x l h h2 hl => exact .pair c e x l (g.tup t h) (g.tup t h2) hl
  | plist c x y h h2 => exact .plist c x y (g.tup t h) (notTup_gr g t h2)
  | none => exact .none
  | other x h => exact .other x (notTup_gr g t h)
def tQ (K : PySem.W.Frag) (P1 P2 : Addr) : TS := tIfS (tNot (tB (tCall (fun vs H Q E => spScal vs H Q E ∨ spAlike K vs H Q E) [] E0 (tCons (tCall (spShowsG K P1 P2) [] E0 (tCons (tVar 3) (tCons (tVar 6) (tCons (tVar 10) tNil)))) (tCons (tVar 11) tNil))))) (tRet (tC (.bl false))) tNext
theorem tQ_ok {D : Ends} {σ : L2.St} {H : Hp} {a : Addr} {ds : List Int} {m : Int} {v : V} {dd : Bool} (h3 : σ[3]? = some (some (.ref a))) (h6 : σ[6]? = some (some (.int m))) (h10 : σ[10]? = some (some v)) (h11 : σ[11]? = some (some (.bl dd))) (ask : AskG K P1 H a ds m) (t2 : TabG H P2)
    (hv : ((v = .non ∨ NotTup H v) ∧ dd = false) ∨ (∃ (c : Addr) (x : Int) (y : V), v = .ref c ∧ SqT K H c [.int x, y] ∧ ((∃ (e : Addr) (ns : List Int), y = .ref e ∧ SqT K H e (ns.map V.int) ∧ ns.length ≤ 1000 ∧
      (dd = true ↔ x = K06.best ds m (K06.lots ds.length) ∧ ns ∈ K06.lots ds.length ∧ (ns.length : Int) ≤ m ∧ K06.top ds ns = K06.best ds m (K06.lots ds.length))) ∨ (NotTup H y ∧ dd = false))))
    (q : ∀ H', Gr P1 P2 H H' → D.nx σ H') : tQ K P1 P2 D σ H := by
  have fin : ∀ H2, Gr P1 P2 H H2 → (fun vs H Q E => spScal vs H Q E ∨ spAlike K vs H Q E : Sp) [.bl dd, .bl dd] H2 (fun x H1 => ∃ c, x = .bl c ∧ (if (!c) = true then tRet (tC (.bl false)) D σ H1 else tNext D σ H1)) E0 := fun H2 g2 =>
    .inl ⟨.bl dd, rfl, .inr (.inr ⟨dd, rfl⟩), fun H3 sm3 => ⟨true, rfl, iteF (q H3 (g2.trans (Gr.same sm3)))⟩⟩
  refine ⟨_, h3, _, h6, _, h10, a, ds, m, v, rfl, ask, t2, ?_⟩
  rcases hv with ⟨h, rfl⟩ | ⟨c, x, y, rfl, hc, hy⟩
  · exact .inl ⟨h, fun H2 g2 => ⟨_, h11, fin H2 g2⟩⟩
  · refine .inr ⟨c, x, y, rfl, hc, ?_⟩
    rcases hy with ⟨e, ns, rfl, he, hl, hd⟩ | ⟨h, rfl⟩
    · refine .inl ⟨e, ns, rfl, he, hl, fun H2 bb g2 hb => ⟨_, h11, ?_⟩⟩
      have e : bb = dd := by
        cases bb with
        | true => exact (hd.mpr (hb.mp rfl)).symm
        | false =>
          cases dd with
          | false => rfl
          | true => have := hb.mpr (hd.mp rfl); cases this
      subst e
      exact fin H2 g2
    · exact .inr ⟨h, fun H2 g2 => ⟨_, h11, fin H2 g2⟩⟩
theorem st_16 (hr : Room 7 (AL f cdv A s)) (B : Fns P w K mg base P1 P2) : ∃ t, PS (XW P w K mg base f cdv A outer s H0 E) (lawSt 16) t ∧ ∀ (D : Ends) σ H, Pre15 K P1 P2 σ H → (∀ σ' H', Pre4 K P1 P2 σ' H' → D.nx σ' H') → t D σ H := by
  refine ⟨_, ps_for PassesOwn.never rfl (pi_list (pe_op op_cat (pe_lst (pa_cons (pv 14) (pa_cons (pe_callTy call_list_of (by rfl) B.names.list (by decide +kernel) (pa_cons (pv 14) pa_nil)) (pa_cons (pe_tup (pa_cons (pe_op op_add (pv 13) pe_int) (pa_cons (pe_ix ix_tup (pv 14) pe_int (fun _ _ => rfl)) pa_nil))) (pa_cons (pe_tup (pa_cons (pv 13) (pa_cons (pe_callTy call_list_of (by rfl) B.names.list (by decide +kernel) (pa_cons (pe_ix ix_tup (pv 14) pe_int (fun _ _ => rfl)) pa_nil)) pa_nil))) (pa_cons (pe_tup (pa_cons (pv 13) (pa_cons (pe_tup (pa_cons (pv 2) pa_nil)) pa_nil))) (pa_cons pe_non (pa_cons pe_int pa_nil)))))))) (pe_lc (own := [("_law_lot_here", 15)]) (g := gName 15) (tt := tYes) (te := tTup (tCons (tVar 13) (tCons (tVar 15) tNil))) rfl scLaw.nd (pi_list (pv 7)) (blkOk_by (N := lawN) (sc := defScope sLaw) (by decide +kernel)) (fun _ _ _ _ _ => pg_name (i := 15) scLaw.nd rfl (Or.inl rfl)) (fun _ _ _ _ _ => pts_nil) (fun _ _ _ _ _ => pe_tup (pa_cons (pv 13) (pa_cons (pv 15) pa_nil)))))) (pg_name (i := 10) scLaw.nd rfl (Or.inl rfl))
    (pss_cons (ps_set (i := 11) scLaw.nd rfl (Or.inl rfl) (pe_and (pe_callB call_isi (by rfl) B.names.isinstance (by decide +kernel) (pa_cons (pv 10) (pa_cons (pe_bltn (v := .ty "tuple") (by rfl) B.names.tuple (by decide +kernel) rfl) pa_nil))) (pe_and (pe_cmpR op_eq (pe_callB call_len_seq (by rfl) B.names.len PySem.boot_len (pa_cons (pv 10) pa_nil)) pe_int (nomark _)) (pe_and (pe_cmpR op_eq (pe_ix ix_tup (pv 10) pe_int (fun _ _ => rfl)) (pv 13) (nomark _)) (pe_one (pe_callB call_isi (by rfl) B.names.isinstance (by decide +kernel) (pa_cons (pe_ix ix_tup (pv 10) pe_int (fun _ _ => rfl)) (pa_cons (pe_bltn (v := .ty "tuple") (by rfl) B.names.tuple (by decide +kernel) rfl) pa_nil)))))))) (pss_cons (ps_set (i := 11) scLaw.nd rfl (Or.inl rfl) (pe_and (pv 11) (pe_and (pe_cmpR (op_inD (hu65 hr)) (pe_ix ix_tup (pv 10) pe_int (fun _ _ => rfl)) (pv 7) (by with_unfolding_all rfl)) (pe_and (pe_cmpR op_le (pe_callB call_len_seq (by rfl) B.names.len PySem.boot_len (pa_cons (pe_ix ix_tup (pv 10) pe_int (fun _ _ => rfl)) pa_nil)) (pv 6) (nomark _)) (pe_one (pe_cmpR op_eq (pe_ix ix_list (pv 12) (pe_bm PySem.F.plainAttrs_list PySem.F.slot_list_index PySem.F.type_list_index (mt_indexD (hu65 hr)) (pv 7) (pa_cons (pe_ix ix_tup (pv 10) pe_int (fun _ _ => rfl)) pa_nil)) (fun _ _ => rfl)) (pv 13) (nomark _)))))))
    (pss_one (ps_if (pt_not (pt_val (pe_cal B.alike (hr.mono (by omega)) (by rfl) (pa_cons (pe_cal B.showsg hr (by rfl) (pa_cons (pv 3) (pa_cons (pv 6) (pa_cons (pv 10) pa_nil)))) (pa_cons (pv 11) pa_nil))))) (pss_one (ps_ret pe_bl)) pss_nil)))), ?_⟩
  rintro D σ H ⟨sc, r, a, l0, ds, p, o, m, vL, L, t1, fo, b, g, x8, x9, x10, x11, x15, x16, x17, rfl, lp, et, hF, hB, hg, hgm, htop⟩ q
  have h5 := lp.D.hi
  have hgl := K06.lot_len (lp.hL.mem_iff.mp hg)
  generalize hbst : K06.best ds m (K06.lots ds.length) = bst at *
  refine ⟨_, rfl, _, rfl, fo, _, rfl, .inr hF, fun q2 hq2 => ?_⟩
  have s2 : Same H (upd H q2 (.lst [.int bst, .ref b])) := same_upd hq2
  have c2 := upd_at H q2 (.lst [.int bst, .ref b])
  generalize upd H q2 (.lst [.int bst, .ref b]) = Ha at *
  refine ⟨_, rfl, bst, 1, rfl, rfl, _, rfl, fo, _, 1, _, rfl, rfl, Same.tup s2 hF, rfl, (show 2 ≤ sizeLine by decide), fun q3 hq3 => ?_⟩
  have s3 : Same Ha (upd Ha q3 (.tup [.int (bst + 1), .ref b])) := same_upd hq3
  have c3 := upd_at Ha q3 (.tup [.int (bst + 1), .ref b])
  generalize upd Ha q3 (.tup [.int (bst + 1), .ref b]) = Hb at *
  have s3' := Same.trans' s2 s3
  refine ⟨_, rfl, _, rfl, fo, _, 1, _, rfl, rfl, Same.tup s3' hF, rfl, b, _, rfl, .inr (Same.tup s3' hB), fun q4 hq4 => ⟨(show 2 ≤ sizeLine by decide), fun q5 hq5 => ?_⟩⟩
  have s4 : Same Hb (upd Hb q4 (.lst (g.map V.int))) := same_upd hq4
  have c4 := upd_at Hb q4 (.lst (g.map V.int))
  generalize upd Hb q4 (.lst (g.map V.int)) = Hc at *
  have s5 : Same Hc (upd Hc q5 (.tup [.int bst, .ref q4])) := same_upd hq5
  have c5 := upd_at Hc q5 (.tup [.int bst, .ref q4])
  generalize upd Hc q5 (.tup [.int bst, .ref q4]) = Hd at *
  refine ⟨_, rfl, _, rfl, (show 1 ≤ sizeLine by decide), fun q6 hq6 => ⟨(show 2 ≤ sizeLine by decide), fun q7 hq7 => ?_⟩⟩
  have s6 : Same Hd (upd Hd q6 (.tup [.int ds.length])) := same_upd hq6
  have c6 := upd_at Hd q6 (.tup [.int ds.length])
  generalize upd Hd q6 (.tup [.int ds.length]) = He at *
  have s7 : Same He (upd He q7 (.tup [.int bst, .ref q6])) := same_upd hq7
  have c7 := upd_at He q7 (.tup [.int bst, .ref q6])
  generalize upd He q7 (.tup [.int bst, .ref q6]) = Hf at *
  refine ⟨(show 7 ≤ sizeLine by decide), fun l2 hl2 => ?_⟩
  have s8 : Same Hf (upd Hf l2 (.lst [.ref fo, .ref q2, .ref q3, .ref q5, .ref q7, .non, .int 3])) := same_upd hl2
  have c8 := upd_at Hf l2 (.lst [.ref fo, .ref q2, .ref q3, .ref q5, .ref q7, .non, .int 3])
  generalize upd Hf l2 (.lst [.ref fo, .ref q2, .ref q3, .ref q5, .ref q7, .non, .int 3]) = Hg at *
  have s78 := Same.trans' s7 s8
  have s68 := Same.trans' s6 s78
  have s58 := Same.trans' s5 s68
  have s48 := Same.trans' s4 s58
  have s38 := Same.trans' s3 s48
  have sg : Same H Hg := Same.trans' s2 s38
  have lpg := lp.gr (Gr.same sg)
  have h32 := lp.len
  have hvL := lot_pairs lpg.lv
  refine ⟨_, rfl, l0, rfl, ⟨_, SqL.of lpg.l0⟩, fun D0 hD0 => ?_⟩
  refine lc_list (K := K) (xs := vL) (fun i H' => Same Hg H' ∧ ∃ acc, H' D0 = some (.lst acc) ∧ PairsV K H' acc ((L.take i).map fun g => (bst, g))) ⟨same_upd hD0, [], upd_same .., .nil⟩ (fun j H' _ h => SqL.of (h.1 _ _ lpg.l0)) (fun i v H' hv h => ?_) (fun H' h => ?_)
  · obtain ⟨sm, acc, eD, pv⟩ := h
    obtain ⟨g', hg', b', rfl, hB'⟩ := paired_at lpg.lv hv
    have hacc := pv.length
    rw [List.length_map, List.length_take] at hacc
    refine ⟨rfl, _, rfl, _, rfl, (show 2 ≤ sizeLine by decide), fun t ht => ?_⟩
    have st : Same H' (upd H' t (.tup [V.int bst, .ref b'])) := same_upd ht
    have eD' := st _ _ eD
    refine ⟨acc, eD', line1000 (by omega), same_upd2 (Same.trans' sm st) hD0, _, upd_same .., ?_⟩
    rw [take_next hg', List.map_append]
    exact pairsV_app (pairsV_keepD (pairsV_same st pv) eD') (.cons ⟨t, b', rfl, tup_upd_lst (SqT.of (upd_same ..)) eD', tup_upd_lst (Same.tup (Same.trans' sm st) hB') eD'⟩ .nil)
  · obtain ⟨sm, acc, eD, pv⟩ := h
    rw [hvL, List.take_length] at pv
    have hacc := pv.length
    rw [List.length_map] at hacc
    refine ⟨l2, D0, _, _, rfl, rfl, sm _ _ c8, eD, Nat.le_of_lt (line1000 (by simp only [List.length_cons, List.length_nil]; omega)), fun lc hlc => ?_⟩
    have s9 : Same H' (upd H' lc (.lst ([.ref fo, .ref q2, .ref q3, .ref q5, .ref q7, .non, .int 3] ++ acc))) := same_upd hlc
    have c9 := upd_at H' lc (.lst ([.ref fo, .ref q2, .ref q3, .ref q5, .ref q7, .non, .int 3] ++ acc))
    generalize upd H' lc (.lst ([.ref fo, .ref q2, .ref q3, .ref q5, .ref q7, .non, .int 3] ++ acc)) = Hh at *
    have sgh := Same.trans' sm s9
    have sh : Same H Hh := Same.trans' sg sgh
    have lph := lp.gr (Gr.same sh)
    have eth := sh _ _ et
    have hvg : ∀ v ∈ [.ref fo, .ref q2, .ref q3, .ref q5, .ref q7, .non, .int 3] ++ acc, VG K Hh v := by
      intro v hv
      rcases List.mem_append.mp hv with hv | hv
      · rcases List.mem_cons.mp hv with rfl | hv
        · exact .pair fo b bst g (Same.tup sh hF) (Same.tup sh hB) (by omega)
        rcases List.mem_cons.mp hv with rfl | hv
        · exact .other _ (.inr ⟨q2, _, rfl, sgh _ _ (s38 _ _ c2)⟩)
        rcases List.mem_cons.mp hv with rfl | hv
        · exact .pair q3 b (bst + 1) g (SqT.of (sgh _ _ (s48 _ _ c3))) (Same.tup sh hB) (by omega)
        rcases List.mem_cons.mp hv with rfl | hv
        · exact .plist q5 bst (.ref q4) (SqT.of (sgh _ _ (s68 _ _ c5))) (.inr ⟨q4, _, rfl, sgh _ _ (s58 _ _ c4)⟩)
        rcases List.mem_cons.mp hv with rfl | hv
        · exact .pair q7 q6 bst [(ds.length : Int)] (SqT.of (sgh _ _ (s8 _ _ c7))) (SqT.of (sgh _ _ (s78 _ _ c6))) (by simp only [List.length_cons, List.length_nil]; omega)
        rcases List.mem_cons.mp hv with rfl | hv
        · exact .none
        rcases List.mem_cons.mp hv with rfl | hv
        · exact .other _ (.inl ⟨3, rfl⟩)
        · cases hv
      · obtain ⟨qq, hqq, t, e, rfl, hT, hE⟩ := paired_mem (pairsV_same s9 pv) hv
        obtain ⟨g', hg', rfl⟩ := List.mem_map.mp hqq
        have := K06.lot_len (lp.hL.mem_iff.mp hg')
        exact .pair t e bst g' hT hE (by omega)
    refine ⟨lc, rfl, ⟨_, SqL.of c9⟩, for_list (K := K) (xs := [.ref fo, .ref q2, .ref q3, .ref q5, .ref q7, .non, .int 3] ++ acc) (fun i σ H' => (∃ x10 x11, σ = sig sc r a l0 ds.length p o m x8 x9 x10 x11 (some (.ref t1)) (some (.int bst)) (some (.ref fo)) x15 x16 x17) ∧ Gr P1 P2 Hh H') ⟨⟨_, _, rfl⟩, Gr.refl _⟩ (fun i σ H' _ h => SqL.of (h.2.at lph.tb c9 (fun _ z => by cases z))) (fun i v σ H' hv h => ?_) (fun σ H' h => ?_)⟩
    · obtain ⟨⟨y10, y11, rfl⟩, gr⟩ := h
      have vg := (hvg v (List.mem_of_getElem? hv)).gr lph.tb gr
      have lp' := lph.gr gr
      have et' := gr.at lph.tb eth (fun _ z => by cases z)
      have ask : AskG K P1 H' a ds m := ⟨lp'.dep, lp'.D, lp'.tb.t1, lp'.m0, lp'.m6⟩
      have t22 : (decide (V.int 2 = V.int 2)) = true := decide_eq_true rfl
      cases vg with
      | pair c e x g' hc he hl =>
        have fin : ∀ dd : Bool, (dd = true ↔ x = bst ∧ g' ∈ L ∧ (g'.length : Int) ≤ m ∧ K06.top ds g' = bst) → tQ K P1 P2 { D with nx := fun σ H' => (∃ x10 x11, σ = sig sc r a l0 ds.length p o m x8 x9 x10 x11 (some (.ref t1)) (some (.int bst)) (some (.ref fo)) x15 x16 x17) ∧ Gr P1 P2 Hh H', ct := fun σ H' => (∃ x10 x11, σ = sig sc r a l0 ds.length p o m x8 x9 x10 x11 (some (.ref t1)) (some (.int bst)) (some (.ref fo)) x15 x16 x17) ∧ Gr P1 P2 Hh H', bk := D.nx } (sig sc r a l0 ds.length p o m x8 x9 (some (.ref c)) (some (.bl dd)) (some (.ref t1)) (some (.int bst)) (some (.ref fo)) x15 x16 x17) H' := fun dd hd =>
          tQ_ok rfl rfl rfl rfl ask lp'.tb.t2 (.inr ⟨c, x, .ref e, rfl, hc, .inl ⟨e, g', rfl, he, by omega, by rw [hbst, ← lp'.hL.mem_iff]; exact hd⟩⟩) fun H2 g2 => ⟨⟨_, _, rfl⟩, gr.trans g2⟩
        refine ⟨_, rfl, .ref c, .ty "tuple", .type "tuple", .type "tuple", true, rfl, .ty _, tyTup hc, kit_ty (by decide +kernel), true, rfl, iteT ?_⟩
        refine ⟨_, rfl, c, _, rfl, .inr hc, rfl, true, ?_, iteT ?_⟩
        · exact congrArg V.bl t22
        refine ⟨_, rfl, c, _, 0, _, rfl, rfl, hc, rfl, _, rfl, rfl, decide (x = bst), ?_, ?_⟩
        · exact congrArg V.bl (decide_eq_decide.mpr ⟨fun z => V.int.inj z, fun z => by rw [z]⟩)
        by_cases hx : x = bst
        · rw [decide_eq_true hx]
          refine iteT ⟨_, rfl, c, _, 1, _, rfl, rfl, hc, rfl, .ref e, .ty "tuple", .type "tuple", .type "tuple", true, rfl, .ty _, tyTup he, kit_ty (by decide +kernel), ?_⟩
          refine ⟨_, rfl, true, rfl, iteT ?_⟩
          refine ⟨_, rfl, c, _, 1, _, rfl, rfl, hc, rfl, .ref l0, rfl, dG g', L.map dG, dp_lot he, .lst (SqL.of lp'.l0) (dp_lots lp'.lv), shaped_dG g', shaped_dL L, decide (g' ∈ L), ?_, ?_⟩
          · rw [any_dG]
          by_cases hin : g' ∈ L
          · rw [decide_eq_true hin]
            refine iteT ⟨_, rfl, c, _, 1, _, rfl, rfl, hc, rfl, e, _, rfl, .inr he, .int m, rfl, _, m, rfl, rfl, decide ((g'.length : Int) ≤ m), ?_, ?_⟩
            · rw [List.length_map]
            by_cases hlm : (g'.length : Int) ≤ m
            · rw [decide_eq_true hlm]
              refine iteT ⟨_, rfl, _, rfl, .inl ⟨rfl, _, SqL.of lp'.l0⟩, _, rfl, c, _, 1, _, rfl, rfl, hc, rfl, ?_⟩
              unfold tNil
              refine index_read (tp := K06.top ds) lp'.l0 lp'.lv et' he hin ⟨_, rfl, rfl, ?_⟩
              refine fin _ ?_
              rw [decide_eq_true_eq]
              exact ⟨fun z => ⟨hx, hin, hlm, V.int.inj z⟩, fun z => by rw [z.2.2.2]⟩
            · rw [decide_eq_false hlm]
              exact iteF (fin false ⟨(fun z => by cases z), fun z => absurd z.2.2.1 hlm⟩)
          · rw [decide_eq_false hin]
            exact iteF (fin false ⟨(fun z => by cases z), fun z => absurd z.2.1 hin⟩)
        · rw [decide_eq_false hx]
          exact iteF ⟨_, rfl, false, rfl, iteF (fin false ⟨(fun z => by cases z), fun z => absurd z.1 hx⟩)⟩
      | plist c x y hc hy =>
        have fin : tQ K P1 P2 { D with nx := fun σ H' => (∃ x10 x11, σ = sig sc r a l0 ds.length p o m x8 x9 x10 x11 (some (.ref t1)) (some (.int bst)) (some (.ref fo)) x15 x16 x17) ∧ Gr P1 P2 Hh H', ct := fun σ H' => (∃ x10 x11, σ = sig sc r a l0 ds.length p o m x8 x9 x10 x11 (some (.ref t1)) (some (.int bst)) (some (.ref fo)) x15 x16 x17) ∧ Gr P1 P2 Hh H', bk := D.nx } (sig sc r a l0 ds.length p o m x8 x9 (some (.ref c)) (some (.bl false)) (some (.ref t1)) (some (.int bst)) (some (.ref fo)) x15 x16 x17) H' :=
          tQ_ok rfl rfl rfl rfl ask lp'.tb.t2 (.inr ⟨c, x, y, rfl, hc, .inr ⟨hy, rfl⟩⟩) fun H2 g2 => ⟨⟨_, _, rfl⟩, gr.trans g2⟩
        obtain ⟨ty, h1, h2⟩ := notTup_ty (K := K) hy
        refine ⟨_, rfl, .ref c, .ty "tuple", .type "tuple", .type "tuple", true, rfl, .ty _, tyTup hc, kit_ty (by decide +kernel), true, rfl, iteT ?_⟩
        refine ⟨_, rfl, c, _, rfl, .inr hc, rfl, true, ?_, iteT ?_⟩
        · exact congrArg V.bl t22
        refine ⟨_, rfl, c, _, 0, _, rfl, rfl, hc, rfl, _, rfl, rfl, decide (x = bst), ?_, ?_⟩
        · exact congrArg V.bl (decide_eq_decide.mpr ⟨fun z => V.int.inj z, fun z => by rw [z]⟩)
        by_cases hx : x = bst
        · rw [decide_eq_true hx]
          exact iteT ⟨_, rfl, c, _, 1, _, rfl, rfl, hc, rfl, y, .ty "tuple", .type ty, .type "tuple", false, rfl, .ty _, h1, kit_ty h2, _, rfl, false, rfl, iteF fin⟩
        · rw [decide_eq_false hx]
          exact iteF ⟨_, rfl, false, rfl, iteF fin⟩
      | none =>
        refine ⟨_, rfl, .non, .ty "tuple", .type "NoneType", .type "tuple", false, rfl, .ty _, .base .non, kit_ty (by decide +kernel), false, rfl, iteF ⟨_, rfl, false, rfl, iteF ?_⟩⟩
        exact tQ_ok rfl rfl rfl rfl ask lp'.tb.t2 (.inl ⟨.inl rfl, rfl⟩) fun H2 g2 => ⟨⟨_, _, rfl⟩, gr.trans g2⟩
      | other v hv =>
        obtain ⟨ty, h1, h2⟩ := notTup_ty (K := K) hv
        refine ⟨_, rfl, _, .ty "tuple", .type ty, .type "tuple", false, rfl, .ty _, h1, kit_ty h2, false, rfl, iteF ⟨_, rfl, false, rfl, iteF ?_⟩⟩
        exact tQ_ok rfl rfl rfl rfl ask lp'.tb.t2 (.inl ⟨.inr hv, rfl⟩) fun H2 g2 => ⟨⟨_, _, rfl⟩, gr.trans g2⟩
    · obtain ⟨⟨y10, y11, rfl⟩, gr⟩ := h
      exact q _ _ ⟨sc, r, a, l0, ds, p, o, m, vL, L, _, _, _, _, _, _, _, _, _, _, rfl, lph.gr gr⟩
end
end K06P

set_option maxRecDepth 100000
set_option maxHeartbeats 4000000
/-! The law. -/
namespace K06P
open PySem PySem.Spec PyProof.Rows L2 GxR
section
variable {P : Program} {w : World} {K : PySem.W.Frag} {mg : Str → Option Value} {base : Heap} {P1 P2 : Addr}
def spLaw (K : PySem.W.Frag) (P1 P2 : Addr) : Sp := fun vs H Q _ => ∃ (sc : Addr) (ns : List Int), vs = [.ref sc] ∧ SqL K H sc (ns.map V.int) ∧ ns.length ≤ sizeLine ∧ Tb P1 P2 H ∧ ∀ H', Q (.bl true) H'
theorem body_law : defBody sLaw = [lawSt 0, lawSt 1, lawSt 2, lawSt 3, lawSt 4, lawSt 5, lawSt 6, lawSt 7, lawSt 8, lawSt 9, lawSt 10, lawSt 11, lawSt 12, lawSt 13, lawSt 14, lawSt 15, lawSt 16, lawSt 17] := rfl
theorem ok_law {f : Addr} {fd : FuncData} (F : Fun K "law" "law" sLaw f fd) (B : Fns P w K mg base P1 P2) : FnOk P w K mg base CX0 8 f fd ["_law_script"] (spLaw K P1 P2) := by
  refine F.ok scLaw (fun vs H Q E h => ?_) (fun cdv A outer s H vs Q E hr h => ?_)
  · obtain ⟨sc, ns, rfl, _⟩ := h
    rfl
  · obtain ⟨sc, ns, rfl, hs, hl, tb, q⟩ := h
    obtain ⟨t0, p0, r0⟩ := st_0 (P := P) (w := w) (K := K) (mg := mg) (base := base) (P1 := P1) (P2 := P2) (f := f) (cdv := cdv) (A := A) (outer := outer) (s := s) (H0 := H) (E := E)
    obtain ⟨t1, p1, r1⟩ := st_1 (outer := outer) (H0 := H) (E := E) hr B
    obtain ⟨t2, p2, r2⟩ := st_2 (outer := outer) (H0 := H) (E := E) hr B
    obtain ⟨t3, p3, r3⟩ := st_3 (outer := outer) (H0 := H) (E := E) hr B
    obtain ⟨t4, p4, r4⟩ := st_4 (outer := outer) (H0 := H) (E := E) hr B
    obtain ⟨t5, p5, r5⟩ := st_5 (outer := outer) (H0 := H) (E := E) hr B
    obtain ⟨t6, p6, r6⟩ := st_6 (outer := outer) (H0 := H) (E := E) hr B
    obtain ⟨t7, p7, r7⟩ := st_7 (outer := outer) (H0 := H) (E := E) hr B
    obtain ⟨t8, p8, r8⟩ := st_8 (outer := outer) (H0 := H) (E := E) hr B
    obtain ⟨t9, p9, r9⟩ := st_9 (outer := outer) (H0 := H) (E := E) hr B
    obtain ⟨t10, p10, r10⟩ := st_10 (outer := outer) (H0 := H) (E := E) hr B
    obtain ⟨t11, p11, r11⟩ := st_11 (outer := outer) (H0 := H) (E := E) hr B
    obtain ⟨t12, p12, r12⟩ := st_12 (outer := outer) (H0 := H) (E := E) hr B
    obtain ⟨t13, p13, r13⟩ := st_13 (outer := outer) (H0 := H) (E := E) hr B
    obtain ⟨t14, p14, r14⟩ := st_14 (outer := outer) (H0 := H) (E := E) hr B
    obtain ⟨t15, p15, r15⟩ := st_15 (outer := outer) (H0 := H) (E := E) hr B
    obtain ⟨t16, p16, r16⟩ := st_16 (outer := outer) (H0 := H) (E := E) hr B
    have p17 : PS (XW P w K mg base f cdv A outer s H E) (lawSt 17) (tRet (tC (.bl true))) := ps_ret pe_bl
    rw [body_law]
    refine ⟨_, pss_cons p0 (pss_cons p1 (pss_cons p2 (pss_cons p3 (pss_cons p4 (pss_cons p5 (pss_cons p6 (pss_cons p7 (pss_cons p8 (pss_cons p9 (pss_cons p10 (pss_cons p11 (pss_cons p12 (pss_cons p13 (pss_cons p14 (pss_cons p15 (pss_cons p16 (pss_one p17))))))))))))))))), ?_⟩
    refine r0 _ _ _ ⟨sc, ns, rfl, hs, hl, tb⟩ fun _ _ h1 => r1 _ _ _ h1 fun _ _ h2 => r2 _ _ _ h2 fun _ _ h3 => r3 _ _ _ h3 fun _ _ h4 => r4 _ _ _ h4 fun _ _ h5 => r5 _ _ _ h5 fun _ _ h6 => r6 _ _ _ h6 fun _ _ h7 => r7 _ _ _ h7 fun _ _ h8 => r8 _ _ _ h8 fun _ _ h9 =>
      r9 _ _ _ h9 fun _ _ h10 => r10 _ _ _ h10 fun _ _ h11 => r11 _ _ _ h11 fun _ _ h12 => r12 _ _ _ h12 fun _ _ h13 => r13 _ _ _ h13 fun _ _ h14 => r14 _ _ _ h14 fun _ _ h15 => r15 _ _ _ h15 fun _ _ h16 => r16 _ _ _ h16 fun _ H' _ => q H'
end
end K06P

set_option maxRecDepth 100000
set_option maxHeartbeats 4000000
/-! All defs together; the end of the walk. -/
namespace K06P
open PySem PySem.Spec PyProof.Rows L2 GxR
/-- a def of the top -/
def DA (K : PySem.W.Frag) (x : Str) (st : Stmt) : Prop := ∃ (f : Addr) (fd : FuncData), PySem.W.nsIn K mainGlobals x = some (some (.ref f)) ∧ Fun K x x st f fd
def DC (K : PySem.W.Frag) (x : Str) (st : Stmt) (c P : Addr) : Prop := (∃ (f : Addr) (fd : FuncData), PySem.W.nsIn K mainGlobals x = some (some (.ref f)) ∧ FunC K x x st f fd c) ∧ PySem.W.tabIn K x = some (c, P) ∧ PySem.W.codeHdIn K c P = true ∧ K.lookup P = none
theorem da_mk {K : PySem.W.Frag} {x : Str} {st : Stmt} {f : Addr} {oc : Value} {od an : Option Addr} {osl : Array (Option Value)} {kV doc pm cdv ct : Value} (a : PySem.W.nsIn K mainGlobals x = some (some (.ref f))) (l : K.lookup f = some ⟨oc, od, .func (PySem.W.fnOf x x (defArgs st) (defBody st) (defScope st) .none kV doc pm an cdv ct), osl⟩)
    (c : PySem.W.codeIn K cdv x = true) (k : PySem.W.keepIn K (.ref f) = true) : DA K x st := ⟨f, _, a, fun_mk l c k⟩
theorem dc_mk {K : PySem.W.Frag} {x : Str} {st : Stmt} {f c P : Addr} {oc : Value} {od an : Option Addr} {osl : Array (Option Value)} {kV doc pm ct : Value} (a : PySem.W.nsIn K mainGlobals x = some (some (.ref f))) (l : K.lookup f = some ⟨oc, od, .func (PySem.W.fnOf x x (defArgs st) (defBody st) (defScope st) .none kV doc pm an (.ref c) ct), osl⟩)
    (cc : PySem.W.codeIn K (.ref c) x = true) (k : PySem.W.keepIn K (.ref f) = true) (t : PySem.W.tabIn K x = some (c, P)) (h : PySem.W.codeHdIn K c P = true) (n : K.lookup P = none) : DC K x st c P := ⟨⟨f, _, a, ⟨⟨oc, od, kV, doc, pm, an, ct, osl, rfl, l, cc⟩, k⟩⟩, t, h, n⟩
theorem ex_mk {K : PySem.W.Frag} {x : Str} {t : Tok} (h : PySem.W.nsIn K mainGlobals x = some (some (.int 6 t))) : ∃ t, PySem.W.nsIn K mainGlobals x = some (some (.int 6 t)) := ⟨t, h⟩
/-- all that the top has written -/
structure Top6 (K : PySem.W.Frag) (c1 P1 c2 P2 : Addr) : Prop where
  d_is_in : DA K "is_in" sIsIn
  d_are_deputies : DC K "are_deputies" sAreDep c1 P1
  d_need_deputies : DA K "need_deputies" sNeedDep
  d_is_lot : DC K "is_lot" sIsLot c2 P2
  d_need_person : DA K "need_person" sNeedPer
  d_chain_of : DA K "chain_of" sChain
  d_holder_of : DA K "holder_of" sHolder
  d_all_holders : DA K "all_holders" sHolders
  d_all_loads : DA K "all_loads" sLoads
  d_all_lots : DA K "all_lots" sLots
  d_need_holder : DA K "need_holder" sNeedHold
  d_least_gone : DA K "least_gone" sLeastGone
  d_need_wanted : DA K "need_wanted" sNeedWant
  d_loaded_lots : DA K "loaded_lots" sLoaded
  d_fewest_load : DA K "fewest_load" sFewest
  d_shows_fewest_load : DA K "shows_fewest_load" sShowsF
  d_load_lots : DA K "load_lots" sLoadLots
  d_need_most : DA K "need_most" sNeedMost
  d_load_of : DA K "load_of" sLoadOf
  d_greatest_of : DA K "greatest_of" sGreatOf
  d_greatest_load : DA K "greatest_load" sGreatest
  d_shows_greatest_load : DA K "shows_greatest_load" sShowsG
  d__law_taken : DA K "_law_taken" sTaken
  d__law_alike : DA K "_law_alike" sAlike
  d__law_deputies : DA K "_law_deputies" sLDep
  d__law_holder : DA K "_law_holder" sLHolder
  d__law_holders : DA K "_law_holders" sLHolders
  d__law_lots : DA K "_law_lots" sLLots
  d_law : DA K "law" sLaw
  n_isinstance : PySem.W.nsIn K mainGlobals "isinstance" = some none
  n_int : PySem.W.nsIn K mainGlobals "int" = some none
  n_bool : PySem.W.nsIn K mainGlobals "bool" = some none
  n_tuple : PySem.W.nsIn K mainGlobals "tuple" = some none
  n_list : PySem.W.nsIn K mainGlobals "list" = some none
  n_str : PySem.W.nsIn K mainGlobals "str" = some none
  n_len : PySem.W.nsIn K mainGlobals "len" = some none
  n_all : PySem.W.nsIn K mainGlobals "all" = some none
  n_enumerate : PySem.W.nsIn K mainGlobals "enumerate" = some none
  n_range : PySem.W.nsIn K mainGlobals "range" = some none
  n_sorted : PySem.W.nsIn K mainGlobals "sorted" = some none
  n_min : PySem.W.nsIn K mainGlobals "min" = some none
  n_max : PySem.W.nsIn K mainGlobals "max" = some none
  people : ∃ t, PySem.W.nsIn K mainGlobals "MOST_PEOPLE" = some (some (.int 6 t))
  wanted : ∃ t, PySem.W.nsIn K mainGlobals "MOST_WANTED" = some (some (.int 6 t))
section
variable {P : Program} {w : World} {K : PySem.W.Frag} {mg : Str → Option Value} {base : Heap} {P1 P2 c1 c2 : Addr}
theorem names_of {h : Heap} (T : Top6 K c1 P1 c2 P2) (X : K.In h) (G : h.Ns mainGlobals mg) : Names mg :=
  ⟨PySem.W.mg_none_of X G T.n_isinstance, PySem.W.mg_none_of X G T.n_int, PySem.W.mg_none_of X G T.n_bool, PySem.W.mg_none_of X G T.n_tuple, PySem.W.mg_none_of X G T.n_list, PySem.W.mg_none_of X G T.n_str, PySem.W.mg_none_of X G T.n_len, PySem.W.mg_none_of X G T.n_all, PySem.W.mg_none_of X G T.n_enumerate, PySem.W.mg_none_of X G T.n_range, PySem.W.mg_none_of X G T.n_sorted, PySem.W.mg_none_of X G T.n_min, PySem.W.mg_none_of X G T.n_max, let ⟨t, e⟩ := T.people; ⟨t, PySem.W.mg_of X G e⟩, let ⟨t, e⟩ := T.wanted; ⟨t, PySem.W.mg_of X G e⟩⟩
theorem all_ok {h : Heap} (T : Top6 K c1 P1 c2 P2) (X : K.In h) (G : h.Ns mainGlobals mg) (TB1 : TabB base mg c1 P1) (TB2 : TabB base mg c2 P2) {fl : Addr} {fdl : FuncData} (FL : Fun K "law" "law" sLaw fl fdl) : FnOk P w K mg base CX0 8 fl fdl ["_law_script"] (spLaw K P1 P2) := by
  have M := names_of T X G
  obtain ⟨f_is_in, fd_is_in, a_is_in, F_is_in⟩ := T.d_is_in
  have m_is_in := PySem.W.mg_of X G a_is_in
  have b_is_in : Binds K fd_is_in ["value", "least", "most"] [] := F_is_in.binds (ps := ["value", "least", "most"]) fun _ _ _ _ _ _ us hl => match us, hl with | [_, _, _], _ => rfl
  have C_is_in : Cal P w K mg base "is_in" 1 ["value", "least", "most"] (spIsIn) := ⟨f_is_in, fd_is_in, m_is_in, F_is_in.kp, b_is_in, ok_isin (k := 0) F_is_in M⟩
  obtain ⟨f_are_deputies, fd_are_deputies, a_are_deputies, F_are_deputies⟩ := T.d_are_deputies.1
  have m_are_deputies := PySem.W.mg_of X G a_are_deputies
  have b_are_deputies : Binds K fd_are_deputies ["value"] [] := F_are_deputies.binds (ps := ["value"]) fun _ _ _ _ _ _ us hl => match us, hl with | [_], _ => rfl
  have C_are_deputies : Cal P w K mg base "are_deputies" 1 ["value"] (spAreDep K P1) := ⟨f_are_deputies, fd_are_deputies, m_are_deputies, F_are_deputies.kp, b_are_deputies, ok_aredep (k := 0) F_are_deputies TB1 F_is_in m_is_in M⟩
  obtain ⟨f_need_deputies, fd_need_deputies, a_need_deputies, F_need_deputies⟩ := T.d_need_deputies
  have m_need_deputies := PySem.W.mg_of X G a_need_deputies
  have b_need_deputies : Binds K fd_need_deputies ["deputies"] [] := F_need_deputies.binds (ps := ["deputies"]) fun _ _ _ _ _ _ us hl => match us, hl with | [_], _ => rfl
  have C_need_deputies : Cal P w K mg base "need_deputies" 2 ["deputies"] (spNeedDep K P1) := ⟨f_need_deputies, fd_need_deputies, m_need_deputies, F_need_deputies.kp, b_need_deputies, ok_needdep F_need_deputies C_are_deputies⟩
  obtain ⟨f_is_lot, fd_is_lot, a_is_lot, F_is_lot⟩ := T.d_is_lot.1
  have m_is_lot := PySem.W.mg_of X G a_is_lot
  have b_is_lot : Binds K fd_is_lot ["size", "value"] [] := F_is_lot.binds (ps := ["size", "value"]) fun _ _ _ _ _ _ us hl => match us, hl with | [_, _], _ => rfl
  have C_is_lot : Cal P w K mg base "is_lot" 1 ["size", "value"] (spIsLot K P2) := ⟨f_is_lot, fd_is_lot, m_is_lot, F_is_lot.kp, b_is_lot, ok_islot (k := 0) F_is_lot TB2 F_is_in m_is_in M⟩
  obtain ⟨f_need_person, fd_need_person, a_need_person, F_need_person⟩ := T.d_need_person
  have m_need_person := PySem.W.mg_of X G a_need_person
  have b_need_person : Binds K fd_need_person ["deputies", "person"] [] := F_need_person.binds (ps := ["deputies", "person"]) fun _ _ _ _ _ _ us hl => match us, hl with | [_, _], _ => rfl
  have C_need_person : Cal P w K mg base "need_person" 2 ["deputies", "person"] (spNeedPer K) := ⟨f_need_person, fd_need_person, m_need_person, F_need_person.kp, b_need_person, ok_needper F_need_person C_is_in M⟩
  obtain ⟨f_chain_of, fd_chain_of, a_chain_of, F_chain_of⟩ := T.d_chain_of
  have m_chain_of := PySem.W.mg_of X G a_chain_of
  have b_chain_of : Binds K fd_chain_of ["deputies", "person"] [] := F_chain_of.binds (ps := ["deputies", "person"]) fun _ _ _ _ _ _ us hl => match us, hl with | [_, _], _ => rfl
  have C_chain_of : Cal P w K mg base "chain_of" 1 ["deputies", "person"] (spChain K) := ⟨f_chain_of, fd_chain_of, m_chain_of, F_chain_of.kp, b_chain_of, ok_chain (k := 0) F_chain_of⟩
  obtain ⟨f_holder_of, fd_holder_of, a_holder_of, F_holder_of⟩ := T.d_holder_of
  have m_holder_of := PySem.W.mg_of X G a_holder_of
  have b_holder_of : Binds K fd_holder_of ["deputies", "gone", "person"] [] := F_holder_of.binds (ps := ["deputies", "gone", "person"]) fun _ _ _ _ _ _ us hl => match us, hl with | [_, _, _], _ => rfl
  have C_holder_of : Cal P w K mg base "holder_of" 2 ["deputies", "gone", "person"] (spHolder K) := ⟨f_holder_of, fd_holder_of, m_holder_of, F_holder_of.kp, b_holder_of, ok_holder F_holder_of C_chain_of⟩
  obtain ⟨f_all_holders, fd_all_holders, a_all_holders, F_all_holders⟩ := T.d_all_holders
  have m_all_holders := PySem.W.mg_of X G a_all_holders
  have b_all_holders : Binds K fd_all_holders ["deputies", "gone"] [] := F_all_holders.binds (ps := ["deputies", "gone"]) fun _ _ _ _ _ _ us hl => match us, hl with | [_, _], _ => rfl
  have C_all_holders : Cal P w K mg base "all_holders" 3 ["deputies", "gone"] (spHolders K) := ⟨f_all_holders, fd_all_holders, m_all_holders, F_all_holders.kp, b_all_holders, ok_holders F_all_holders C_holder_of M⟩
  obtain ⟨f_all_loads, fd_all_loads, a_all_loads, F_all_loads⟩ := T.d_all_loads
  have m_all_loads := PySem.W.mg_of X G a_all_loads
  have b_all_loads : Binds K fd_all_loads ["deputies", "gone"] [] := F_all_loads.binds (ps := ["deputies", "gone"]) fun _ _ _ _ _ _ us hl => match us, hl with | [_, _], _ => rfl
  have C_all_loads : Cal P w K mg base "all_loads" 4 ["deputies", "gone"] (spLoads K) := ⟨f_all_loads, fd_all_loads, m_all_loads, F_all_loads.kp, b_all_loads, ok_loads F_all_loads C_all_holders M⟩
  obtain ⟨f_all_lots, fd_all_lots, a_all_lots, F_all_lots⟩ := T.d_all_lots
  have m_all_lots := PySem.W.mg_of X G a_all_lots
  have b_all_lots : Binds K fd_all_lots ["size"] [] := F_all_lots.binds (ps := ["size"]) fun _ _ _ _ _ _ us hl => match us, hl with | [_], _ => rfl
  have C_all_lots : Cal P w K mg base "all_lots" 1 ["size"] (spLots K) := ⟨f_all_lots, fd_all_lots, m_all_lots, F_all_lots.kp, b_all_lots, ok_lots (k := 0) F_all_lots M⟩
  obtain ⟨f_need_holder, fd_need_holder, a_need_holder, F_need_holder⟩ := T.d_need_holder
  have m_need_holder := PySem.W.mg_of X G a_need_holder
  have b_need_holder : Binds K fd_need_holder ["deputies", "other"] [] := F_need_holder.binds (ps := ["deputies", "other"]) fun _ _ _ _ _ _ us hl => match us, hl with | [_, _], _ => rfl
  have C_need_holder : Cal P w K mg base "need_holder" 2 ["deputies", "other"] (spNeedHold K) := ⟨f_need_holder, fd_need_holder, m_need_holder, F_need_holder.kp, b_need_holder, ok_needhold F_need_holder C_is_in M⟩
  obtain ⟨f_least_gone, fd_least_gone, a_least_gone, F_least_gone⟩ := T.d_least_gone
  have m_least_gone := PySem.W.mg_of X G a_least_gone
  have b_least_gone : Binds K fd_least_gone ["deputies", "person", "other"] [] := F_least_gone.binds (ps := ["deputies", "person", "other"]) fun _ _ _ _ _ _ us hl => match us, hl with | [_, _, _], _ => rfl
  have C_least_gone : Cal P w K mg base "least_gone" 3 ["deputies", "person", "other"] (spLeast K P1 P2) := ⟨f_least_gone, fd_least_gone, m_least_gone, F_least_gone.kp, b_least_gone, ok_least F_least_gone C_need_deputies C_need_person C_need_holder C_chain_of M⟩
  obtain ⟨f_need_wanted, fd_need_wanted, a_need_wanted, F_need_wanted⟩ := T.d_need_wanted
  have m_need_wanted := PySem.W.mg_of X G a_need_wanted
  have b_need_wanted : Binds K fd_need_wanted ["deputies", "person", "many"] [] := F_need_wanted.binds (ps := ["deputies", "person", "many"]) fun _ _ _ _ _ _ us hl => match us, hl with | [_, _, _], _ => rfl
  have C_need_wanted : Cal P w K mg base "need_wanted" 3 ["deputies", "person", "many"] (spNeedWanted K P1) := ⟨f_need_wanted, fd_need_wanted, m_need_wanted, F_need_wanted.kp, b_need_wanted, ok_needwanted F_need_wanted C_need_deputies C_need_person C_is_in M⟩
  obtain ⟨f_loaded_lots, fd_loaded_lots, a_loaded_lots, F_loaded_lots⟩ := T.d_loaded_lots
  have m_loaded_lots := PySem.W.mg_of X G a_loaded_lots
  have b_loaded_lots : Binds K fd_loaded_lots ["deputies", "person", "many"] [] := F_loaded_lots.binds (ps := ["deputies", "person", "many"]) fun _ _ _ _ _ _ us hl => match us, hl with | [_, _, _], _ => rfl
  have C_loaded_lots : Cal P w K mg base "loaded_lots" 4 ["deputies", "person", "many"] (spLoaded K) := ⟨f_loaded_lots, fd_loaded_lots, m_loaded_lots, F_loaded_lots.kp, b_loaded_lots, ok_loaded F_loaded_lots C_all_lots C_all_holders M⟩
  obtain ⟨f_fewest_load, fd_fewest_load, a_fewest_load, F_fewest_load⟩ := T.d_fewest_load
  have m_fewest_load := PySem.W.mg_of X G a_fewest_load
  have b_fewest_load : Binds K fd_fewest_load ["deputies", "person", "many"] [] := F_fewest_load.binds (ps := ["deputies", "person", "many"]) fun _ _ _ _ _ _ us hl => match us, hl with | [_, _, _], _ => rfl
  have C_fewest_load : Cal P w K mg base "fewest_load" 5 ["deputies", "person", "many"] (spFewest K P1 P2) := ⟨f_fewest_load, fd_fewest_load, m_fewest_load, F_fewest_load.kp, b_fewest_load, ok_fewest F_fewest_load C_need_wanted C_loaded_lots M⟩
  obtain ⟨f_shows_fewest_load, fd_shows_fewest_load, a_shows_fewest_load, F_shows_fewest_load⟩ := T.d_shows_fewest_load
  have m_shows_fewest_load := PySem.W.mg_of X G a_shows_fewest_load
  have b_shows_fewest_load : Binds K fd_shows_fewest_load ["deputies", "person", "many", "value"] [] := F_shows_fewest_load.binds (ps := ["deputies", "person", "many", "value"]) fun _ _ _ _ _ _ us hl => match us, hl with | [_, _, _, _], _ => rfl
  have C_shows_fewest_load : Cal P w K mg base "shows_fewest_load" 5 ["deputies", "person", "many", "value"] (spShowsF K P1 P2) := ⟨f_shows_fewest_load, fd_shows_fewest_load, m_shows_fewest_load, F_shows_fewest_load.kp, b_shows_fewest_load, ok_showsf F_shows_fewest_load C_need_wanted C_loaded_lots C_is_lot M⟩
  obtain ⟨f_load_lots, fd_load_lots, a_load_lots, F_load_lots⟩ := T.d_load_lots
  have m_load_lots := PySem.W.mg_of X G a_load_lots
  have b_load_lots : Binds K fd_load_lots ["deputies", "person", "many"] [] := F_load_lots.binds (ps := ["deputies", "person", "many"]) fun _ _ _ _ _ _ us hl => match us, hl with | [_, _, _], _ => rfl
  have C_load_lots : Cal P w K mg base "load_lots" 5 ["deputies", "person", "many"] (spLoadLots K P1 P2) := ⟨f_load_lots, fd_load_lots, m_load_lots, F_load_lots.kp, b_load_lots, ok_loadlots F_load_lots C_need_wanted C_loaded_lots M⟩
  obtain ⟨f_need_most, fd_need_most, a_need_most, F_need_most⟩ := T.d_need_most
  have m_need_most := PySem.W.mg_of X G a_need_most
  have b_need_most : Binds K fd_need_most ["deputies", "many"] [] := F_need_most.binds (ps := ["deputies", "many"]) fun _ _ _ _ _ _ us hl => match us, hl with | [_, _], _ => rfl
  have C_need_most : Cal P w K mg base "need_most" 3 ["deputies", "many"] (spNeedMost K P1) := ⟨f_need_most, fd_need_most, m_need_most, F_need_most.kp, b_need_most, ok_needmost F_need_most C_need_deputies C_is_in M⟩
  obtain ⟨f_load_of, fd_load_of, a_load_of, F_load_of⟩ := T.d_load_of
  have m_load_of := PySem.W.mg_of X G a_load_of
  have b_load_of : Binds K fd_load_of ["deputies", "lot"] [] := F_load_of.binds (ps := ["deputies", "lot"]) fun _ _ _ _ _ _ us hl => match us, hl with | [_, _], _ => rfl
  have C_load_of : Cal P w K mg base "load_of" 5 ["deputies", "lot"] (spLoadOf K) := ⟨f_load_of, fd_load_of, m_load_of, F_load_of.kp, b_load_of, ok_loadof F_load_of C_all_loads M⟩
  obtain ⟨f_greatest_of, fd_greatest_of, a_greatest_of, F_greatest_of⟩ := T.d_greatest_of
  have m_greatest_of := PySem.W.mg_of X G a_greatest_of
  have b_greatest_of : Binds K fd_greatest_of ["deputies", "many"] [] := F_greatest_of.binds (ps := ["deputies", "many"]) fun _ _ _ _ _ _ us hl => match us, hl with | [_, _], _ => rfl
  have C_greatest_of : Cal P w K mg base "greatest_of" 6 ["deputies", "many"] (spGreatOf K) := ⟨f_greatest_of, fd_greatest_of, m_greatest_of, F_greatest_of.kp, b_greatest_of, ok_greatof F_greatest_of C_all_lots C_load_of M⟩
  obtain ⟨f_greatest_load, fd_greatest_load, a_greatest_load, F_greatest_load⟩ := T.d_greatest_load
  have m_greatest_load := PySem.W.mg_of X G a_greatest_load
  have b_greatest_load : Binds K fd_greatest_load ["deputies", "many"] [] := F_greatest_load.binds (ps := ["deputies", "many"]) fun _ _ _ _ _ _ us hl => match us, hl with | [_, _], _ => rfl
  have C_greatest_load : Cal P w K mg base "greatest_load" 7 ["deputies", "many"] (spGreatest K P1 P2) := ⟨f_greatest_load, fd_greatest_load, m_greatest_load, F_greatest_load.kp, b_greatest_load, ok_greatest F_greatest_load C_need_most C_greatest_of M⟩
  obtain ⟨f_shows_greatest_load, fd_shows_greatest_load, a_shows_greatest_load, F_shows_greatest_load⟩ := T.d_shows_greatest_load
  have m_shows_greatest_load := PySem.W.mg_of X G a_shows_greatest_load
  have b_shows_greatest_load : Binds K fd_shows_greatest_load ["deputies", "many", "value"] [] := F_shows_greatest_load.binds (ps := ["deputies", "many", "value"]) fun _ _ _ _ _ _ us hl => match us, hl with | [_, _, _], _ => rfl
  have C_shows_greatest_load : Cal P w K mg base "shows_greatest_load" 7 ["deputies", "many", "value"] (spShowsG K P1 P2) := ⟨f_shows_greatest_load, fd_shows_greatest_load, m_shows_greatest_load, F_shows_greatest_load.kp, b_shows_greatest_load, ok_showsg F_shows_greatest_load C_need_most C_greatest_of C_is_in C_is_lot C_load_of M⟩
  obtain ⟨f__law_taken, fd__law_taken, a__law_taken, F__law_taken⟩ := T.d__law_taken
  have m__law_taken := PySem.W.mg_of X G a__law_taken
  have b__law_taken : Binds K fd__law_taken ["_law_row", "_law_many"] [] := F__law_taken.binds (ps := ["_law_row", "_law_many"]) fun _ _ _ _ _ _ us hl => match us, hl with | [_, _], _ => rfl
  have C__law_taken : Cal P w K mg base "_law_taken" 1 ["_law_row", "_law_many"] (spTaken K) := ⟨f__law_taken, fd__law_taken, m__law_taken, F__law_taken.kp, b__law_taken, ok_taken (k := 0) F__law_taken M⟩
  obtain ⟨f__law_alike, fd__law_alike, a__law_alike, F__law_alike⟩ := T.d__law_alike
  have m__law_alike := PySem.W.mg_of X G a__law_alike
  have b__law_alike : Binds K fd__law_alike ["_law_found", "_law_due"] [] := F__law_alike.binds (ps := ["_law_found", "_law_due"]) fun _ _ _ _ _ _ us hl => match us, hl with | [_, _], _ => rfl
  have C0 : Cal P w K mg base "_law_alike" 1 ["_law_found", "_law_due"] spScal := ⟨f__law_alike, fd__law_alike, m__law_alike, F__law_alike.kp, b__law_alike, ok_alike0 (k := 0) F__law_alike M⟩
  have C__law_alike : Cal P w K mg base "_law_alike" 2 ["_law_found", "_law_due"] (fun vs H Q E => spScal vs H Q E ∨ spAlike K vs H Q E) := ⟨f__law_alike, fd__law_alike, m__law_alike, F__law_alike.kp, b__law_alike, fnOk_or (ok_alike0 (k := 1) F__law_alike M) (ok_alike1 F__law_alike C0 M)⟩
  obtain ⟨f__law_deputies, fd__law_deputies, a__law_deputies, F__law_deputies⟩ := T.d__law_deputies
  have m__law_deputies := PySem.W.mg_of X G a__law_deputies
  have b__law_deputies : Binds K fd__law_deputies ["_law_row", "_law_size"] [] := F__law_deputies.binds (ps := ["_law_row", "_law_size"]) fun _ _ _ _ _ _ us hl => match us, hl with | [_, _], _ => rfl
  have C__law_deputies : Cal P w K mg base "_law_deputies" 2 ["_law_row", "_law_size"] (spLDep K) := ⟨f__law_deputies, fd__law_deputies, m__law_deputies, F__law_deputies.kp, b__law_deputies, ok_ldep F__law_deputies C__law_taken M⟩
  obtain ⟨f__law_holder, fd__law_holder, a__law_holder, F__law_holder⟩ := T.d__law_holder
  have m__law_holder := PySem.W.mg_of X G a__law_holder
  have b__law_holder : Binds K fd__law_holder ["_law_deputies_here", "_law_gone", "_law_person"] [] := F__law_holder.binds (ps := ["_law_deputies_here", "_law_gone", "_law_person"]) fun _ _ _ _ _ _ us hl => match us, hl with | [_, _, _], _ => rfl
  have C__law_holder : Cal P w K mg base "_law_holder" 1 ["_law_deputies_here", "_law_gone", "_law_person"] (spHolder K) := ⟨f__law_holder, fd__law_holder, m__law_holder, F__law_holder.kp, b__law_holder, ok_lholder (k := 0) F__law_holder M⟩
  obtain ⟨f__law_holders, fd__law_holders, a__law_holders, F__law_holders⟩ := T.d__law_holders
  have m__law_holders := PySem.W.mg_of X G a__law_holders
  have b__law_holders : Binds K fd__law_holders ["_law_deputies_here", "_law_gone"] [] := F__law_holders.binds (ps := ["_law_deputies_here", "_law_gone"]) fun _ _ _ _ _ _ us hl => match us, hl with | [_, _], _ => rfl
  have C__law_holders : Cal P w K mg base "_law_holders" 2 ["_law_deputies_here", "_law_gone"] (spHolders K) := ⟨f__law_holders, fd__law_holders, m__law_holders, F__law_holders.kp, b__law_holders, ok_lholders F__law_holders C__law_holder M⟩
  obtain ⟨f__law_lots, fd__law_lots, a__law_lots, F__law_lots⟩ := T.d__law_lots
  have m__law_lots := PySem.W.mg_of X G a__law_lots
  have b__law_lots : Binds K fd__law_lots ["_law_size"] [] := F__law_lots.binds (ps := ["_law_size"]) fun _ _ _ _ _ _ us hl => match us, hl with | [_], _ => rfl
  have C__law_lots : Cal P w K mg base "_law_lots" 1 ["_law_size"] (spLots K) := ⟨f__law_lots, fd__law_lots, m__law_lots, F__law_lots.kp, b__law_lots, ok_llots (k := 0) F__law_lots M⟩
  exact ok_law FL ⟨M, C__law_taken, C__law_deputies, C__law_lots, C__law_holder, C__law_holders, C__law_alike, C_least_gone, C_fewest_load, C_shows_fewest_load, C_load_lots, C_greatest_load, C_shows_greatest_load⟩
end
/-- the end: the tables' contents come from the top -/
theorem walk_end {l : PySem.W.OpenLaw} {n : Nat} {q : Program} {loose : List Str} {XP : (Str → Option Value) → Heap → Prop} {YP : World → Heap → Prop} {d d1 d2 : PySem.DefRec} {K : Params → PySem.W.Frag} {c1 P1 c2 P2 : Addr}
    (hn : l.most = some n) (hn2 : n ≤ sizeLine) (hdf : d.params.defaults = []) (hr : Room 8 callerA) (hY : ∀ (w : World) (h : Heap), YP w h → (K w.params).In h) (hname : d.name = "law")
    (r1 : (PyProof.Rows.recsOf q).find? (fun e => e.name == ("are_deputies" : Str)) = some d1) (r2 : (PyProof.Rows.recsOf q).find? (fun e => e.name == ("is_lot" : Str)) = some d2)
    (T : ∀ w : World, Top6 (K w.params) c1 P1 c2 P2) : PySem.W.WalkO q loose XP YP l.row.toRowW d [] (fun f vs => PySem.call f vs) := by
  refine Att.attach_callB hn hdf fun w s₀ s₁ mg mb fa o pm cd doc a vs ns G Y ho hd hcd hmg hobj hints hlen hbits hg => ?_
  have KX := hY w _ Y
  have T6 := T w
  obtain ⟨h1, t1⟩ := PySem.W.tab_of G.T KX r1 T6.d_are_deputies.2.1
  obtain ⟨h2, t2⟩ := PySem.W.tab_of G.T KX r2 T6.d_is_lot.2.1
  obtain ⟨fl, fdl, al, FL⟩ := T6.d_law
  have ml := PySem.W.mg_of KX G.T.g al
  rw [hname] at hmg
  have e := hmg.symm.trans ml
  cases e
  have hbind : ∀ (s : Shared) (u : Value), BindsTo s fdl ⟨[u], []⟩ [("_law_script", u)] := by
    obtain ⟨oc, od, kV, doc, pm, an, cdv, ct, osl, rfl, _, _⟩ := FL.ex
    exact fun s u => .of_eq rfl
  refine LamX.law_callTs (cs := [(c1, P1), (c2, P2)]) (k := 8) (x := "_law_script") (sp := spLaw (K w.params) P1 P2) (CX := CX0) KX G.T.g G.T.b G.T.builtins G.T.nolimit hg ?_ ?_ ?_ G.T.bmain hobj hints (Nat.le_trans hlen hn2) hr (fun base X Gb TB => ?_) hbind (fun H hH hS => ?_) (fun _ _ _ z => z)
  · intro p hp
    rcases List.mem_cons.mp hp with rfl | hp
    · exact t1
    rcases List.mem_cons.mp hp with rfl | hp
    · exact t2
    · cases hp
  · intro p hp
    rcases List.mem_cons.mp hp with rfl | hp
    · exact T6.d_are_deputies.2.2.2
    rcases List.mem_cons.mp hp with rfl | hp
    · exact T6.d_is_lot.2.2.2
    · cases hp
  · intro p hp
    rcases List.mem_cons.mp hp with rfl | hp
    · exact h1
    rcases List.mem_cons.mp hp with rfl | hp
    · exact h2
    · cases hp
  · have B1 := TB (c1, P1) (List.mem_cons_self ..)
    have B2 := TB (c2, P2) (List.mem_cons_of_mem _ (List.mem_cons_self ..))
    exact all_ok T6 X Gb ⟨B1.code, B1.bm, B1.gP⟩ ⟨B2.code, B2.bm, B2.gP⟩ FL
  · have e1 := hH (c1, P1) (List.mem_cons_self ..)
    have e2 := hH (c2, P2) (List.mem_cons_of_mem _ (List.mem_cons_self ..))
    exact ⟨a, ns, rfl, hS, Nat.le_trans hlen hn2, ⟨⟨#[], e1, trivial⟩, ⟨#[], e2, trivial⟩⟩, fun _ => rfl⟩
end K06P

open PySem PySem.W PyProof.Rows
set_option maxRecDepth 100000 in
set_option maxHeartbeats 0 in
open_top head for PySem.Challenge.rw_firstthere_k06_whole_needed_lots

/-! The claim. -/
open PySem PySem.W PyProof.Rows
set_option maxRecDepth 100000 in
set_option maxHeartbeats 0 in
theorem PySem.Challenge.cw_firstthere_k06_whole_needed_lots_holds : PySem.Challenge.rw_firstthere_k06_whole_needed_lots.Holds :=
  head (by
    k_fill
    refine K06P.walk_end (l := PySem.Challenge.rw_firstthere_k06_whole_needed_lots) (n := 63) (c1 := 76) (P1 := 72) (c2 := 90) (P2 := 86) rfl (by decide) rfl ⟨rfl, by decide, by decide⟩ (fun w h Y => PySem.W.kIn_of Y) rfl (by rfl) (by rfl) (fun w => ?T)
    case T =>
      refine' ⟨?d_is_in, ?d_are_deputies, ?d_need_deputies, ?d_is_lot, ?d_need_person, ?d_chain_of, ?d_holder_of, ?d_all_holders, ?d_all_loads, ?d_all_lots, ?d_need_holder, ?d_least_gone, ?d_need_wanted, ?d_loaded_lots, ?d_fewest_load, ?d_shows_fewest_load, ?d_load_lots, ?d_need_most, ?d_load_of, ?d_greatest_of, ?d_greatest_load, ?d_shows_greatest_load, ?d__law_taken, ?d__law_alike, ?d__law_deputies, ?d__law_holder, ?d__law_holders, ?d__law_lots, ?d_law, ?n_isinstance, ?n_int, ?n_bool, ?n_tuple, ?n_list, ?n_str, ?n_len, ?n_all, ?n_enumerate, ?n_range, ?n_sorted, ?n_min, ?n_max, K06P.ex_mk ?people, K06P.ex_mk ?wanted⟩
      case d_is_in =>
        refine' K06P.da_mk ?a ?l ?c ?k
        (case a => k_is); (case l => k_is); (case c => k_is); (case k => k_is)
      case d_are_deputies =>
        refine' K06P.dc_mk ?a ?l ?c ?k ?t ?h ?n
        (case a => k_is); (case l => k_is); (case c => k_is); (case k => k_is); (case t => kernel_rfl); (case h => kernel_rfl); (case n => kernel_rfl)
      case d_need_deputies =>
        refine' K06P.da_mk ?a ?l ?c ?k
        (case a => k_is); (case l => k_is); (case c => k_is); (case k => k_is)
      case d_is_lot =>
        refine' K06P.dc_mk ?a ?l ?c ?k ?t ?h ?n
        (case a => k_is); (case l => k_is); (case c => k_is); (case k => k_is); (case t => kernel_rfl); (case h => kernel_rfl); (case n => kernel_rfl)
      case d_need_person =>
        refine' K06P.da_mk ?a ?l ?c ?k
        (case a => k_is); (case l => k_is); (case c => k_is); (case k => k_is)
      case d_chain_of =>
        refine' K06P.da_mk ?a ?l ?c ?k
        (case a => k_is); (case l => k_is); (case c => k_is); (case k => k_is)
      case d_holder_of =>
        refine' K06P.da_mk ?a ?l ?c ?k
        (case a => k_is); (case l => k_is); (case c => k_is); (case k => k_is)
      case d_all_holders =>
        refine' K06P.da_mk ?a ?l ?c ?k
        (case a => k_is); (case l => k_is); (case c => k_is); (case k => k_is)
      case d_all_loads =>
        refine' K06P.da_mk ?a ?l ?c ?k
        (case a => k_is); (case l => k_is); (case c => k_is); (case k => k_is)
      case d_all_lots =>
        refine' K06P.da_mk ?a ?l ?c ?k
        (case a => k_is); (case l => k_is); (case c => k_is); (case k => k_is)
      case d_need_holder =>
        refine' K06P.da_mk ?a ?l ?c ?k
        (case a => k_is); (case l => k_is); (case c => k_is); (case k => k_is)
      case d_least_gone =>
        refine' K06P.da_mk ?a ?l ?c ?k
        (case a => k_is); (case l => k_is); (case c => k_is); (case k => k_is)
      case d_need_wanted =>
        refine' K06P.da_mk ?a ?l ?c ?k
        (case a => k_is); (case l => k_is); (case c => k_is); (case k => k_is)
      case d_loaded_lots =>
        refine' K06P.da_mk ?a ?l ?c ?k
        (case a => k_is); (case l => k_is); (case c => k_is); (case k => k_is)
      case d_fewest_load =>
        refine' K06P.da_mk ?a ?l ?c ?k
        (case a => k_is); (case l => k_is); (case c => k_is); (case k => k_is)
      case d_shows_fewest_load =>
        refine' K06P.da_mk ?a ?l ?c ?k
        (case a => k_is); (case l => k_is); (case c => k_is); (case k => k_is)
      case d_load_lots =>
        refine' K06P.da_mk ?a ?l ?c ?k
        (case a => k_is); (case l => k_is); (case c => k_is); (case k => k_is)
      case d_need_most =>
        refine' K06P.da_mk ?a ?l ?c ?k
        (case a => k_is); (case l => k_is); (case c => k_is); (case k => k_is)
      case d_load_of =>
        refine' K06P.da_mk ?a ?l ?c ?k
        (case a => k_is); (case l => k_is); (case c => k_is); (case k => k_is)
      case d_greatest_of =>
        refine' K06P.da_mk ?a ?l ?c ?k
        (case a => k_is); (case l => k_is); (case c => k_is); (case k => k_is)
      case d_greatest_load =>
        refine' K06P.da_mk ?a ?l ?c ?k
        (case a => k_is); (case l => k_is); (case c => k_is); (case k => k_is)
      case d_shows_greatest_load =>
        refine' K06P.da_mk ?a ?l ?c ?k
        (case a => k_is); (case l => k_is); (case c => k_is); (case k => k_is)
      case d__law_taken =>
        refine' K06P.da_mk ?a ?l ?c ?k
        (case a => k_is); (case l => k_is); (case c => k_is); (case k => k_is)
      case d__law_alike =>
        refine' K06P.da_mk ?a ?l ?c ?k
        (case a => k_is); (case l => k_is); (case c => k_is); (case k => k_is)
      case d__law_deputies =>
        refine' K06P.da_mk ?a ?l ?c ?k
        (case a => k_is); (case l => k_is); (case c => k_is); (case k => k_is)
      case d__law_holder =>
        refine' K06P.da_mk ?a ?l ?c ?k
        (case a => k_is); (case l => k_is); (case c => k_is); (case k => k_is)
      case d__law_holders =>
        refine' K06P.da_mk ?a ?l ?c ?k
        (case a => k_is); (case l => k_is); (case c => k_is); (case k => k_is)
      case d__law_lots =>
        refine' K06P.da_mk ?a ?l ?c ?k
        (case a => k_is); (case l => k_is); (case c => k_is); (case k => k_is)
      case d_law =>
        refine' K06P.da_mk ?a ?l ?c ?k
        (case a => k_is); (case l => k_is); (case c => k_is); (case k => k_is)
      case n_isinstance => k_is
      case n_int => k_is
      case n_bool => k_is
      case n_tuple => k_is
      case n_list => k_is
      case n_str => k_is
      case n_len => k_is
      case n_all => k_is
      case n_enumerate => k_is
      case n_range => k_is
      case n_sorted => k_is
      case n_min => k_is
      case n_max => k_is
      case people => k_is
      case wanted => k_is)
