import PyProof.Rows.All
import Wide.All
import OpenK.AllK
import Wide.FinOn
import HandS.ForMost
import KE.GoesEnum
import HandS.SortRule
import HandS.Wide
import HandS.WideMore
import KE.DataMinMax
import OpenK.KOps
import HandS.SortKw
import HandS.Walk
import KE.GoesEnumKw
import KE.KDictZip
import KE.KDictCopyH
import KE.KDictLaw
import HandS.GenList
import KE.KAsSuite
import HandS.IsInst
import HandS.Property
import HandS.ClsMeth
import HandS.Star
import HandS.MethStar
import HandS.Flow
import HandS.Sort
import HandS.SortInts
import HandS.WideBits
import HandS.Deep
import HandS.Style
import HandS.Conv
import HandS.DictComp
import HandS.Evl
import HandS.Strs
import HandS.TupMul
import PySem.Challenge.RW_movingup_k89_whole_departures_in_order
set_option linter.all false
set_option maxHeartbeats 4000000
namespace K89
/-! Plain arithmetic of trees, arrangements, departures; no program in sight. -/

abbrev Fn := Nat → Option Nat
def put1 (A : Fn) (k : Nat) (x : Option Nat) : Fn := fun j => if j = k then x else A j
theorem put1_same {A : Fn} {k : Nat} {x : Option Nat} : put1 A k x k = x := by simp [put1]
theorem put1_ne {A : Fn} {k j : Nat} {x : Option Nat} (h : j ≠ k) : put1 A k x j = A j := by simp [put1, h]

def kids (n : Nat) (par : Nat → Nat) (p : Nat) : List Nat := (List.range n).filter fun k => decide (0 < k) && decide (par k = p)
theorem mem_kids {n : Nat} {par : Nat → Nat} {p k : Nat} : k ∈ kids n par p ↔ k < n ∧ 0 < k ∧ par k = p := by
  simp [kids, List.mem_filter]

/-- the posts from p up to the head -/
def upsF (par : Nat → Nat) : Nat → Nat → List Nat
  | 0, p => [p]
  | f + 1, p => if p = 0 then [0] else p :: upsF par f (par p)
def ups (par : Nat → Nat) (p : Nat) : List Nat := upsF par p p
def path (par : Nat → Nat) (p : Nat) : List Nat := (ups par p).reverse

section
variable {n : Nat} {par : Nat → Nat} (hp : ∀ k, 0 < k → par k < k)
include hp

theorem upsF_eq : ∀ (f g p : Nat), p ≤ f → p ≤ g → upsF par f p = upsF par g p := by
  intro f
  induction f with
  | zero =>
    intro g p h1 h2
    have e : p = 0 := by omega
    subst e
    cases g <;> simp [upsF]
  | succ f ih =>
    intro g p h1 h2
    by_cases hz : p = 0
    · subst hz
      cases g <;> simp [upsF]
    · have hlt := hp p (by omega)
      obtain ⟨g', rfl⟩ : ∃ g', g = g' + 1 := ⟨g - 1, by omega⟩
      simp only [upsF, if_neg hz]
      rw [ih g' (par p) (by omega) (by omega)]
theorem ups_zero : ups par 0 = [0] := by simp [ups, upsF]
theorem ups_pos {p : Nat} (h : 0 < p) : ups par p = p :: ups par (par p) := by
  have hlt := hp p h
  obtain ⟨q, rfl⟩ : ∃ q, p = q + 1 := ⟨p - 1, by omega⟩
  show upsF par (q + 1) (q + 1) = _
  simp only [upsF]
  rw [if_neg (by omega)]
  unfold ups
  rw [upsF_eq hp q (par (q + 1)) (par (q + 1)) (by omega) (Nat.le_refl _)]
theorem ups_le {p : Nat} : ∀ q ∈ ups par p, q ≤ p := by
  induction p using Nat.strongRecOn with
  | ind p ih =>
    intro q hq
    by_cases hz : p = 0
    · subst hz
      rw [ups_zero hp] at hq
      simp at hq
      omega
    · have h0 : 0 < p := by omega
      rw [ups_pos hp h0] at hq
      rcases List.mem_cons.mp hq with h | h
      · omega
      · have := ih (par p) (hp p h0) q h
        have := hp p h0
        omega
theorem ups_self {p : Nat} : p ∈ ups par p := by
  by_cases hz : p = 0
  · subst hz
    rw [ups_zero hp]
    simp
  · rw [ups_pos hp (by omega)]
    simp
theorem ups_head {p : Nat} : ups par p = p :: (ups par p).tail := by
  by_cases hz : p = 0
  · subst hz
    rw [ups_zero hp]
    rfl
  · rw [ups_pos hp (by omega)]
    rfl
theorem ups_tail_lt {p : Nat} : ∀ q ∈ (ups par p).tail, q < p := by
  intro q hq
  by_cases hz : p = 0
  · subst hz
    rw [ups_zero hp] at hq
    simp at hq
  · have h0 : 0 < p := by omega
    rw [ups_pos hp h0] at hq
    have := ups_le hp q hq
    have := hp p h0
    omega
theorem ups_dec {p : Nat} : (ups par p).Pairwise (fun a b => b < a) := by
  induction p using Nat.strongRecOn with
  | ind p ih =>
    by_cases hz : p = 0
    · subst hz
      rw [ups_zero hp]
      simp
    · have h0 : 0 < p := by omega
      rw [ups_pos hp h0]
      refine List.pairwise_cons.mpr ⟨fun q hq => ?_, ih (par p) (hp p h0)⟩
      have := ups_le hp q hq
      have := hp p h0
      omega
/-- the way up from a post of the way up -/
theorem ups_split {p q : Nat} (h : q ∈ ups par p) : ∃ pre, ups par p = pre ++ ups par q ∧ ∀ z ∈ pre, q < z := by
  induction p using Nat.strongRecOn with
  | ind p ih =>
    by_cases hz : p = 0
    · subst hz
      rw [ups_zero hp] at h
      have e : q = 0 := by simpa using h
      subst e
      exact ⟨[], rfl, by simp⟩
    · have h0 : 0 < p := by omega
      by_cases e : q = p
      · subst e
        exact ⟨[], rfl, by simp⟩
      · rw [ups_pos hp h0] at h
        rcases List.mem_cons.mp h with h | h
        · exact absurd h e
        · obtain ⟨pre, e1, e2⟩ := ih (par p) (hp p h0) h
          refine ⟨p :: pre, by rw [ups_pos hp h0, e1]; rfl, fun z hz => ?_⟩
          rcases List.mem_cons.mp hz with r | r
          · have := ups_le hp q h
            have := hp p h0
            omega
          · exact e2 z r
theorem ups_trans {p q r : Nat} (h : q ∈ ups par p) (h' : r ∈ ups par q) : r ∈ ups par p := by
  obtain ⟨pre, e, _⟩ := ups_split hp h
  rw [e]
  exact List.mem_append_right _ h'
theorem path_self {p : Nat} : path par p = (ups par p).tail.reverse ++ [p] := by
  unfold path
  rw [ups_head hp]
  simp
theorem path_inc {p : Nat} : (path par p).Pairwise (· < ·) := by
  unfold path
  rw [List.pairwise_reverse]
  exact ups_dec hp
theorem mem_path {p q : Nat} : q ∈ path par p ↔ q ∈ ups par p := by
  unfold path
  simp
theorem path_split {p q : Nat} (h : q ∈ ups par p) : ∃ post, path par p = path par q ++ post ∧ ∀ z ∈ post, q < z := by
  obtain ⟨pre, e1, e2⟩ := ups_split hp h
  refine ⟨pre.reverse, by unfold path; rw [e1, List.reverse_append], fun z hz => e2 z (by simpa using hz)⟩
end

/-! ### arrangements -/
def Inj (n : Nat) (A : Fn) : Prop := ∀ i j x, i < n → j < n → A i = some x → A j = some x → i = j
structure Arr (n : Nat) (par : Nat → Nat) (A : Fn) : Prop where
  ord : ∀ k x, 0 < k → k < n → A k = some x → ∃ y, A (par k) = some y ∧ y < x
  inj : Inj n A

section
variable {n : Nat} {par : Nat → Nat} {A B : Fn}
theorem Arr.above (hp : ∀ k, 0 < k → par k < k) (a : Arr n par A) {k q x : Nat} (hk : k < n) (e : A k = some x) (hq : q ∈ ups par k) : ∃ y, A q = some y ∧ y ≤ x ∧ (q ≠ k → y < x) := by
  induction k using Nat.strongRecOn generalizing x with
  | ind k ih =>
    by_cases hz : k = 0
    · subst hz
      rw [ups_zero hp] at hq
      have e2 : q = 0 := by simpa using hq
      subst e2
      exact ⟨x, e, Nat.le_refl _, fun h => absurd rfl h⟩
    · have h0 : 0 < k := by omega
      rw [ups_pos hp h0] at hq
      rcases List.mem_cons.mp hq with h | h
      · subst h
        exact ⟨x, e, Nat.le_refl _, fun h => absurd rfl h⟩
      · obtain ⟨y, e1, hlt⟩ := a.ord k x h0 hk e
        have hlt2 := hp k h0
        obtain ⟨z, e2, h1, h2⟩ := ih (par k) hlt2 (by omega) e1 h
        exact ⟨z, e2, by omega, fun _ => by omega⟩

/-- from a hole at p the most senior one below moves up, and so on; the hole ends at e -/
inductive Goes (n : Nat) (par : Nat → Nat) : Fn → Nat → Fn → Nat → Prop
  | stop (A : Fn) (p : Nat) : (∀ c ∈ kids n par p, A c = none) → Goes n par A p A p
  | step (A : Fn) (p c x : Nat) (A' : Fn) (e : Nat) : c ∈ kids n par p → A c = some x → (∀ c' ∈ kids n par p, ∀ x', A c' = some x' → x ≤ x') →
      Goes n par (put1 (put1 A p (some x)) c none) c A' e → Goes n par A p A' e

theorem inj_move (hp : ∀ k, 0 < k → par k < k) {p c x : Nat} (i : Inj n A) (h0 : A p = none) (hc : c ∈ kids n par p) (e : A c = some x) : Inj n (put1 (put1 A p (some x)) c none) := by
  obtain ⟨h1, h2, h3⟩ := mem_kids.mp hc
  have hlt := hp c h2
  intro a b y ha hb ea eb
  unfold put1 at ea eb
  by_cases c1 : a = c
  · simp [c1] at ea
  by_cases c2 : b = c
  · simp [c2] at eb
  rw [if_neg c1] at ea
  rw [if_neg c2] at eb
  by_cases d1 : a = p
  · by_cases d2 : b = p
    · omega
    · rw [if_pos d1] at ea
      rw [if_neg d2] at eb
      have := i b c y hb h1 eb (by rw [e]; exact ea)
      omega
  · by_cases d2 : b = p
    · rw [if_neg d1] at ea
      rw [if_pos d2] at eb
      have := i a c y ha h1 ea (by rw [e]; exact eb)
      omega
    · rw [if_neg d1] at ea
      rw [if_neg d2] at eb
      exact i a b y ha hb ea eb

theorem Goes.det (hp : ∀ k, 0 < k → par k < k) {p e1 : Nat} {A1 : Fn} (g : Goes n par A p A1 e1) : ∀ {A2 : Fn} {e2 : Nat}, Inj n A → A p = none → Goes n par A p A2 e2 → A1 = A2 ∧ e1 = e2 := by
  induction g with
  | stop A p h =>
    intro A2 e2 i h0 g2
    cases g2 with
    | stop _ _ _ => exact ⟨rfl, rfl⟩
    | step _ _ c x _ _ hc ex _ _ => rw [h c hc] at ex; cases ex
  | step A p c x A' e hc ex hm g ih =>
    intro A2 e2 i h0 g2
    cases g2 with
    | stop _ _ h => rw [h c hc] at ex; cases ex
    | step _ _ c' x' _ _ hc' ex' hm' g' =>
      have l1 := hm c' hc' x' ex'
      have l2 := hm' c hc x ex
      have exx : x = x' := by omega
      subst exx
      have ec : c = c' := i c c' x (mem_kids.mp hc).1 (mem_kids.mp hc').1 ex ex'
      subst ec
      exact ih (inj_move hp i h0 hc ex) put1_same g'

/-- what holds while somebody who stood at q, x, leaves: the hole is at p -/
structure Hole (n : Nat) (par : Nat → Nat) (A : Fn) (q x : Nat) (B : Fn) (p : Nat) : Prop where
  lt : p < n
  hole : B p = none
  was : ∃ y, A p = some y
  inj : Inj n B
  low : q ∈ ups par p
  ord : ∀ k y, 0 < k → k < n → B k = some y → par k ≠ p → ∃ z, B (par k) = some z ∧ z < y
  ordp : ∀ k y, 0 < k → k < n → B k = some y → par k = p → 0 < p → ∃ z, B (par p) = some z ∧ z < y
  opn : 0 < p → ∃ z, B (par p) = some z
  same : ∀ k, k ∉ ups par p → B k = A k
  perm : (x :: ((ups par p).tail.filterMap B)).Perm ((ups par p).filterMap A)
  full : ∀ k ∈ (ups par p).tail, ∃ y, B k = some y
  empty : ∀ k, A k = none → B k = none
  rise : ∀ k y, k < n → B k = some y → ∃ j, j < n ∧ A j = some y ∧ k ∈ ups par j
  who : ∀ y, (∃ k, k < n ∧ A k = some y) → y = x ∨ ∃ k, k < n ∧ B k = some y
  gone : ∀ k, k < n → B k ≠ some x

theorem filterMap_congr {α β : Type} {f g : α → Option β} : ∀ {l : List α}, (∀ a ∈ l, f a = g a) → l.filterMap f = l.filterMap g
  | [], _ => rfl
  | a :: l, h => by
    have e1 := h a List.mem_cons_self
    have e2 := filterMap_congr (l := l) fun b hb => h b (List.mem_cons_of_mem _ hb)
    simp only [List.filterMap_cons, e1, e2]

theorem Hole.start (hp : ∀ k, 0 < k → par k < k) (a : Arr n par A) {q x : Nat} (hq : q < n) (e : A q = some x) : Hole n par A q x (put1 A q none) q where
  lt := hq
  hole := put1_same
  was := ⟨x, e⟩
  inj := by
    intro i j y hi hj ei ej
    unfold put1 at ei ej
    by_cases c1 : i = q
    · simp [c1] at ei
    by_cases c2 : j = q
    · simp [c2] at ej
    rw [if_neg c1] at ei
    rw [if_neg c2] at ej
    exact a.inj i j y hi hj ei ej
  low := ups_self hp
  ord := by
    intro k y h0 hk ek hne
    have hkq : k ≠ q := fun h => by rw [h, put1_same] at ek; cases ek
    rw [put1_ne hkq] at ek
    rw [put1_ne hne]
    exact a.ord k y h0 hk ek
  ordp := by
    intro k y h0 hk ek hpk hq0
    have hkq : k ≠ q := fun h => by rw [h, put1_same] at ek; cases ek
    rw [put1_ne hkq] at ek
    obtain ⟨z, e1, l1⟩ := a.ord k y h0 hk ek
    rw [hpk] at e1
    obtain ⟨z2, e2, l2⟩ := a.ord q z hq0 hq e1
    have := hp q hq0
    exact ⟨z2, by rw [put1_ne (by omega)]; exact e2, by omega⟩
  opn := by
    intro h0
    obtain ⟨z, e1, _⟩ := a.ord q x h0 hq e
    have := hp q h0
    exact ⟨z, by rw [put1_ne (by omega)]; exact e1⟩
  same := by
    intro k hk
    exact put1_ne fun h => hk (by rw [h]; exact ups_self hp)
  perm := by
    rw [ups_head hp]
    simp only [List.tail_cons, List.filterMap_cons, e]
    rw [filterMap_congr (f := put1 A q none) (g := A) fun b hb => put1_ne (Nat.ne_of_lt (ups_tail_lt hp b hb))]
  full := by
    intro k hk
    have hlt := ups_tail_lt hp k hk
    rw [put1_ne (by omega)]
    obtain ⟨y, e1, _⟩ := a.above hp hq e (List.mem_of_mem_tail hk)
    exact ⟨y, e1⟩
  empty := by
    intro k hk
    unfold put1
    split
    · rfl
    · exact hk
  rise := by
    intro k y hk ek
    have hkq : k ≠ q := fun h => by rw [h, put1_same] at ek; cases ek
    rw [put1_ne hkq] at ek
    exact ⟨k, hk, ek, ups_self hp⟩
  who := by
    rintro y ⟨k, hk, ek⟩
    by_cases hkq : k = q
    · left
      rw [hkq, e] at ek
      exact (Option.some.inj ek).symm
    · exact .inr ⟨k, hk, by rw [put1_ne hkq]; exact ek⟩
  gone := by
    intro k hk ek
    have hkq : k ≠ q := fun h => by rw [h, put1_same] at ek; cases ek
    rw [put1_ne hkq] at ek
    exact hkq (a.inj k q x hk hq ek e)

theorem Hole.step (hp : ∀ k, 0 < k → par k < k) {q x p c y : Nat} (h : Hole n par A q x B p) (hc : c ∈ kids n par p) (e : B c = some y) (hm : ∀ c' ∈ kids n par p, ∀ x', B c' = some x' → y ≤ x') :
    Hole n par A q x (put1 (put1 B p (some y)) c none) c := by
  obtain ⟨c1, c2, c3⟩ := mem_kids.mp hc
  have clt := hp c c2
  have cp : c ≠ p := by omega
  have cu : c ∉ ups par p := fun hm => by have := ups_le hp c hm; omega
  have ec : A c = some y := by rw [← h.same c cu]; exact e
  have ups_c : ups par c = c :: ups par p := by rw [ups_pos hp c2, c3]
  have atp : put1 (put1 B p (some y)) c none p = some y := by rw [put1_ne (by omega), put1_same]
  have off : ∀ k, k ≠ c → k ≠ p → put1 (put1 B p (some y)) c none k = B k := fun k h1 h2 => by rw [put1_ne h1, put1_ne h2]
  have tail_off : ∀ k ∈ (ups par p).tail, put1 (put1 B p (some y)) c none k = B k := fun k hk => by
    have := ups_tail_lt hp k hk
    exact off k (by omega) (by omega)
  refine ⟨c1, put1_same, ⟨y, ec⟩, inj_move hp h.inj h.hole hc e, ?_, ?_, ?_, ?_, ?_, ?_, ?_, ?_, ?_, ?_, ?_⟩
  · rw [ups_c]
    exact List.mem_cons_of_mem _ h.low
  · intro k z h0 hk ek hne
    by_cases k1 : k = c
    · rw [k1, put1_same] at ek; cases ek
    by_cases k2 : k = p
    · subst k2
      rw [atp] at ek
      cases ek
      obtain ⟨z, e1, l1⟩ := h.ordp c y c2 c1 e c3 h0
      have := hp k h0
      exact ⟨z, by rw [off _ hne (by omega)]; exact e1, l1⟩
    · rw [off k k1 k2] at ek
      by_cases k3 : par k = p
      · rw [k3]
        refine ⟨y, atp, ?_⟩
        have l1 := hm k (mem_kids.mpr ⟨hk, h0, k3⟩) z ek
        have : y ≠ z := fun q => k1 (h.inj k c y hk c1 (by rw [q]; exact ek) e)
        omega
      · obtain ⟨z2, e2, l2⟩ := h.ord k z h0 hk ek k3
        exact ⟨z2, by rw [off _ hne k3]; exact e2, l2⟩
  · intro k z h0 hk ek hpk _
    have hlt := hp k h0
    have k1 : k ≠ c := fun q => by rw [q] at hpk; omega
    have k2 : k ≠ p := fun q => by rw [q] at hpk; have := hp p (by omega); omega
    rw [off k k1 k2] at ek
    obtain ⟨z2, e2, l2⟩ := h.ord k z h0 hk ek (by omega)
    rw [hpk, e] at e2
    cases e2
    exact ⟨y, by rw [c3]; exact atp, l2⟩
  · intro _
    exact ⟨y, by rw [c3]; exact atp⟩
  · intro k hk
    rw [ups_c] at hk
    have k1 : k ≠ c := fun q => hk (by rw [q]; exact List.mem_cons_self)
    have k3 : k ∉ ups par p := fun q => hk (List.mem_cons_of_mem _ q)
    have k2 : k ≠ p := fun q => k3 (by rw [q]; exact ups_self hp)
    rw [off k k1 k2]
    exact h.same k k3
  · rw [ups_c]
    simp only [List.tail_cons, List.filterMap_cons, ec]
    have e1 : (ups par p).filterMap (put1 (put1 B p (some y)) c none) = y :: (ups par p).tail.filterMap B := by
      rw [ups_head hp]
      simp only [List.filterMap_cons, atp, List.tail_cons]
      rw [filterMap_congr tail_off]
    rw [e1]
    exact (List.Perm.swap y x _).trans (h.perm.cons y)
  · intro k hk
    rw [ups_c, List.tail_cons] at hk
    rw [ups_head hp] at hk
    rcases List.mem_cons.mp hk with r | r
    · exact ⟨y, by rw [r]; exact atp⟩
    · rw [tail_off k r]
      exact h.full k r
  · intro k hk
    have k2 : k ≠ p := fun q => by obtain ⟨z, ez⟩ := h.was; rw [q, ez] at hk; cases hk
    by_cases k1 : k = c
    · rw [k1, put1_same]
    · rw [off k k1 k2]
      exact h.empty k hk
  · intro k z hk ek
    by_cases k1 : k = c
    · rw [k1, put1_same] at ek; cases ek
    by_cases k2 : k = p
    · subst k2
      rw [atp] at ek
      cases ek
      exact ⟨c, c1, ec, by rw [ups_c]; exact List.mem_cons_of_mem _ (ups_self hp)⟩
    · rw [off k k1 k2] at ek
      exact h.rise k z hk ek
  · intro z hz
    rcases h.who z hz with r | ⟨k, hk, ek⟩
    · exact .inl r
    · refine .inr ?_
      by_cases k1 : k = c
      · rw [k1, e] at ek
        cases ek
        exact ⟨p, h.lt, atp⟩
      · have k2 : k ≠ p := fun q => by rw [q, h.hole] at ek; cases ek
        exact ⟨k, hk, by rw [off k k1 k2]; exact ek⟩
  · intro k hk ek
    by_cases k1 : k = c
    · rw [k1, put1_same] at ek; cases ek
    by_cases k2 : k = p
    · subst k2
      rw [atp] at ek
      exact h.gone c c1 (by rw [e]; exact ek)
    · rw [off k k1 k2] at ek
      exact h.gone k hk ek

theorem Goes.hole (hp : ∀ k, 0 < k → par k < k) {q x p e : Nat} {A0 A' : Fn} (g : Goes n par B p A' e) : Hole n par A0 q x B p → Hole n par A0 q x A' e ∧ ∀ c ∈ kids n par e, A' c = none := by
  induction g with
  | stop B p h => intro hh; exact ⟨hh, h⟩
  | step B p c y A' e hc ec hm g ih => intro hh; exact ih (hh.step hp hc ec hm)
/-- there is always an end -/
theorem Goes.ex (hp : ∀ k, 0 < k → par k < k) (B : Fn) (p : Nat) (hpn : p < n) : ∃ A' e, Goes n par B p A' e := by
  obtain ⟨m, hm⟩ : ∃ m, m = n - p := ⟨_, rfl⟩
  induction m using Nat.strongRecOn generalizing B p with
  | ind m ih =>
    by_cases h : ∀ c ∈ kids n par p, B c = none
    · exact ⟨B, p, .stop B p h⟩
    · have h1 : ∃ y c, c ∈ kids n par p ∧ B c = some y := by
        apply Classical.byContradiction
        intro hn
        apply h
        intro c hc
        cases e : B c with
        | none => rfl
        | some y => exact absurd ⟨y, c, hc, e⟩ hn
      -- the least
      obtain ⟨y, ⟨c, hc, ec⟩, hmin⟩ : ∃ y, (∃ c, c ∈ kids n par p ∧ B c = some y) ∧ ∀ z, z < y → ¬ ∃ c, c ∈ kids n par p ∧ B c = some z := by
        obtain ⟨y0, c0, h0⟩ := h1
        have := Classical.byContradiction (p := ∃ y, (∃ c, c ∈ kids n par p ∧ B c = some y) ∧ ∀ z, z < y → ¬ ∃ c, c ∈ kids n par p ∧ B c = some z) fun hn => by
          have all : ∀ y, ¬ ∃ c, c ∈ kids n par p ∧ B c = some y := by
            intro y
            induction y using Nat.strongRecOn with
            | ind y ihy => exact fun hy => hn ⟨y, hy, ihy⟩
          exact all y0 ⟨c0, h0⟩
        exact this
      have hmm : ∀ c' ∈ kids n par p, ∀ x', B c' = some x' → y ≤ x' := fun c' hc' x' e' => by
        apply Classical.byContradiction
        intro hlt
        exact hmin x' (by omega) ⟨c', hc', e'⟩
      obtain ⟨c1, c2, c3⟩ := mem_kids.mp hc
      have := hp c c2
      obtain ⟨A', e, g⟩ := ih (n - c) (by omega) (put1 (put1 B p (some y)) c none) c c1 rfl
      exact ⟨A', e, .step B p c y A' e hc ec hmm g⟩

/-- x, who stood at q, has left; e is the post that was emptied in the end -/
structure Left (n : Nat) (par : Nat → Nat) (A : Fn) (x : Nat) (A' : Fn) (e : Nat) : Prop where
  arr : Arr n par A'
  lt : e < n
  nil : A' e = none
  opn : 0 < e → ∃ z, A' (par e) = some z
  empty : ∀ k, A k = none → A' k = none
  rise : ∀ k y, k < n → A' k = some y → ∃ j, j < n ∧ A j = some y ∧ k ∈ ups par j
  who : ∀ y, (∃ k, k < n ∧ A' k = some y) ↔ (∃ k, k < n ∧ A k = some y) ∧ y ≠ x
  same : ∀ k, k ∉ ups par e → A' k = A k
  full : ∀ k ∈ (ups par e).tail, ∃ y, A' k = some y
  perm : (x :: ((ups par e).tail.filterMap A')).Perm ((ups par e).filterMap A)
  held : ∀ k ∈ ups par e, ∃ y, A k = some y
  sorted : (path par e).Pairwise fun i j => ∀ y z, A i = some y → A j = some z → y < z

theorem Goes.left (hp : ∀ k, 0 < k → par k < k) (a : Arr n par A) {q x e : Nat} {A' : Fn} (hq : q < n) (eq : A q = some x) (g : Goes n par (put1 A q none) q A' e) : Left n par A x A' e := by
  obtain ⟨h, hk⟩ := g.hole hp (Hole.start hp a hq eq)
  obtain ⟨ye, hye⟩ := h.was
  refine ⟨⟨?_, h.inj⟩, h.lt, h.hole, h.opn, h.empty, h.rise, fun y => ⟨?_, ?_⟩, h.same, h.full, h.perm, ?_, ?_⟩
  · intro k y h0 hkn ek
    by_cases hpk : par k = e
    · rw [hk k (mem_kids.mpr ⟨hkn, h0, hpk⟩)] at ek; cases ek
    · exact h.ord k y h0 hkn ek hpk
  · rintro ⟨k, hkn, ek⟩
    obtain ⟨j, hj, ej, _⟩ := h.rise k y hkn ek
    exact ⟨⟨j, hj, ej⟩, fun q => h.gone k hkn (by rw [← q]; exact ek)⟩
  · rintro ⟨hy, hne⟩
    rcases h.who y hy with r | r
    · exact absurd r hne
    · exact r
  · intro k hku
    obtain ⟨y, ey, _⟩ := a.above hp h.lt hye hku
    exact ⟨y, ey⟩
  · unfold path
    rw [List.pairwise_reverse]
    -- along the way up each one is above the one before
    have key : ∀ p, p < n → (∃ y, A p = some y) → (ups par p).Pairwise fun j i => ∀ y z, A i = some y → A j = some z → y < z := by
      intro p
      induction p using Nat.strongRecOn with
      | ind p ih =>
        rintro hpn ⟨y, ey⟩
        by_cases hz : p = 0
        · subst hz
          rw [ups_zero hp]
          simp
        · have h0 : 0 < p := by omega
          have := hp p h0
          obtain ⟨z, ez, _⟩ := a.ord p y h0 hpn ey
          rw [ups_pos hp h0]
          refine List.pairwise_cons.mpr ⟨fun i hi u v eu ev => ?_, ih (par p) this (by omega) ⟨z, ez⟩⟩
          obtain ⟨w, ew, _, lw⟩ := a.above hp hpn ey (q := i) (by rw [ups_pos hp h0]; exact List.mem_cons_of_mem _ hi)
          have hne : i ≠ p := by have := ups_le hp i hi; omega
          have := lw hne
          rw [ew] at eu
          rw [ey] at ev
          cases eu
          cases ev
          exact this
    exact key e h.lt h.was
end
end K89
set_option Elab.async false
set_option linter.all false
set_option maxRecDepth 100000
set_option maxHeartbeats 4000000
namespace K89
open PySem PySem.Spec PyProof.Rows L2

/-! ### for i, x in enumerate(t), t a tuple -/
theorem enum_new1 {v : Value} {o : Obj} {H : Heap → Prop} (B : Begins v o H) :
    Meets (Builtin.«enumerate.__new__» ⟨[.type "enumerate", v], []⟩) (fun _ R s => H s.heap ∧
      R (.ok (.ret (.ref (s.heap.push o).objs.size)))
        { s with heap := (s.heap.push o).push { cls := .type "enumerate", data := .fields #[.none, .bool false, .ref s.heap.objs.size, rawInt 0, .none, .none] } }) :=
  .of_wp fun prog w A R s h => by
    obtain ⟨hp, g, d, tk, os⟩ := s
    obtain ⟨h1, h⟩ := h
    have hsub := sub_enumerate
    have q1 : ∀ {A' : Around} {E : Value → Shared → Prop} {Q : Value → Shared → Prop}, Q (.ref hp.objs.size) ⟨hp.push o, g, d, tk, os⟩ → wpAny (model prog w) A' (pyIter v) Q E ⟨hp, g, d, tk, os⟩ :=
      fun q => B.iter prog w _ _ ⟨hp, g, d, tk, os⟩ _ h1 q
    wp_walk using q1
    refine wpAny_stack_any fun st => wpAny_pure ?_
    split
    · rename_i c _ _ _ _ _
      cases (c == Value.type "enumerate") <;> (wp_walk using q1; exact ⟨_, rfl, h⟩)
    · wp_walk using q1
      exact ⟨_, rfl, h⟩
theorem enum_call1 {prog : Program} {w : World} {A : Around} {E : Value → Shared → Prop} {s : Shared} {v : Value} {o : Obj} {H : Heap → Prop} {Q : Value → Shared → Prop} (B : Begins v o H) (h1 : H s.heap)
    (h : ∀ h', IsEnum h' (s.heap.objs.size + 1) s.heap.objs.size 0 .none → h'.get? s.heap.objs.size = some o → h'.objs.size = s.heap.objs.size + 2 →
      (∀ b u, s.heap.get? b = some u → h'.get? b = some u) → Q (.ref (s.heap.objs.size + 1)) { s with heap := h' }) :
    wpAny (model prog w) A (call (.type "enumerate") [v]) Q E s := by
  refine callType_new F.called_enumerate (by decide) (F.typeCall_enumerate_1 _) (F.newCall_enumerate_1 _) (fun obj => F.args_object_init_2 obj _) F.entry_enumerate_new (enum_new1 B) ⟨h1, ?_⟩
  have z1 : (s.heap.push o).objs.size = s.heap.objs.size + 1 := Heap.size_push ..
  show _ ∧ _
  rw [z1]
  have he := Heap.get?_push_size (s.heap.push o) (o := { cls := .type "enumerate", data := .fields #[.none, .bool false, .ref s.heap.objs.size, rawInt 0, .none, .none] }) rfl
  rw [z1] at he
  exact ⟨⟨_, he, rfl⟩, h _ he (Heap.get?_push_of_some _ (Heap.get?_push_size _ B.free)) (by rw [Heap.size_push, z1]) fun b u x => Heap.get?_push_of_some _ (Heap.get?_push_of_some _ x)⟩

/-- the tuple at a, each item in a new pair -/
def IteT (K : PySem.W.Frag) (a : Addr) : It where
  go := fun i H => ∃ (xs : List V) (x : V), SqT K H a xs ∧ xs[i]? = some x
  yld := fun i H v H' => ∃ T x, v = .ref T ∧ H T = none ∧ H' = upd H T (.tup [.int (i : Nat), x]) ∧ ∀ xs, SqT K H a xs → xs[i]? = some x
  stop := fun i H => ∃ xs : List V, SqT K H a xs ∧ xs.length = i

theorem tupiter_ne {h : Heap} {it t : Addr} {i : Nat} {items : Array Value} (hi : h.IsTupleIter it t i) (ht : IsTup h t items) : t ≠ it := by
  rintro rfl
  obtain ⟨o, e, c, d⟩ := hi
  obtain ⟨o', e', c', _⟩ := ht
  rw [e] at e'
  cases e'
  rw [c] at c'
  exact absurd c' (by decide)
theorem enum_tup_ne {h : Heap} {e it t : Addr} {n : Int} {old : Value} {items : Array Value} (he : IsEnum h e it n old) (ht : IsTup h t items) : t ≠ e := by
  rintro rfl
  obtain ⟨o', e', c', _⟩ := ht
  rw [he] at e'
  cases e'
  have c2 : Value.type "enumerate" = Value.type "tuple" := c'
  exact absurd c2 (by decide)

theorem turn_enumT {P : Program} {w : World} {K : PySem.W.Frag} {elts : List Expr} {kk : Nat} {tpos : Pos} (a e it : Addr) :
    Turn P w K (.Tuple elts kk tpos) (IteT K a) [e, it] e (fun i h => (∃ old, IsEnum h e it ((i : Nat) : Int) old) ∧ h.IsTupleIter it a i ∧ e ≠ it) where
  mem := by simp
  obj := fun i h st b hb => by
    obtain ⟨⟨old, he⟩, ⟨o, ho, hc, hd⟩, _⟩ := st
    rcases (by simpa using hb : b = e ∨ b = it) with z | z <;> rw [z]
    · exact ⟨_, he, fun v q => nomatch q⟩
    · exact ⟨o, ho, fun v q => by rw [hd] at q; cases q⟩
  keep := fun i h h' st k => by
    obtain ⟨⟨old, he⟩, hi, hne⟩ := st
    exact ⟨⟨old, k e (by simp) _ he⟩, hi.at fun o q => k it (by simp) o q, hne⟩
  item := by
    intro X hP hw hK hc i pins s σ H E I hf st hg
    subst hP hw hK
    obtain ⟨⟨old, he⟩, hit, hne⟩ := st
    obtain ⟨xs, x, hq, hx⟩ := hg
    obtain ⟨its, rv, ht, hz⟩ := I.tuple hq
    obtain ⟨u, hu, ru⟩ := rv.get hx
    have hel : e < s.heap.objs.size := Heap.lt_size he
    have hil : it < s.heap.objs.size := by obtain ⟨_, q, _⟩ := hit; exact Heap.lt_size q
    have nta := tupiter_ne hit ht
    have nte := enum_tup_ne he ht
    have Dr := Draws.tuple (prog := X.prog) (w := X.w) (A := X.A.in1) (I.ok.hd hc) it a nta its.toArray
    have hlt : i < its.toArray.size := by
      have := (List.getElem?_eq_some_iff.mp hu).1
      simpa using this
    refine wpAny_pyNext_enum_itemD Dr he ⟨hit, ht⟩ hlt hne (by simp [hne, Ne.symm nte]) fun x' h' tk hP ho hst hT hsz hk => ?_
    have ex : x' = u := by
      have hu2 : its.toArray[i]? = some u := by simpa using hu
      rw [hu2] at hP
      exact (Option.some.inj hP).symm
    subst ex
    refine ⟨_, rfl, wpAny_letOwnedTupleGo_enum (s := { s with heap := h', toks := tk + 1 }) ho fun h'' he' sb => ?_⟩
    have hT2 : h''.get? s.heap.objs.size = some { cls := .type "tuple", data := .seq #[.int i tk, x'] } := (sb.2 _ (Nat.ne_of_gt hel)).trans hT
    have new : ObjOk X.prog X.w (upd H s.heap.objs.size (.tup [.int (i : Nat), x])) h'' s.heap.objs.size (.tup [.int (i : Nat), x]) :=
      ⟨by show 2 ≤ sizeLine; decide, [.int i tk, x'], .cons ⟨_, rfl⟩ (.cons ru .nil), ⟨_, hT2, rfl, _, rfl⟩⟩
    have kk : ∀ b ob, b ∉ [e, it] → s.heap.get? b = some ob → h''.get? b = some ob := fun b ob hb q => by
      have b1 : b ≠ e := fun z => hb (by simp [z])
      have b2 : b ≠ it := fun z => hb (by simp [z])
      exact (sb.2 b b1).trans (hk b ob b1 b2 q)
    have I1 : Inv X pins σ (upd H s.heap.objs.size (.tup [.int (i : Nat), x])) { s with heap := h'', toks := tk + 1 } := I.turnedNew (ch := [e, it]) kk hf (Nat.le_refl _) new
    refine ⟨.ref s.heap.objs.size, _, I1, rfl, ⟨_, x, rfl, I.hok.fresh (Nat.le_refl _), rfl, fun ys hy => by rw [I.tuple_inj hy hq]; exact hx⟩, ⟨⟨x', ?_⟩, hst.1.at fun o q => (sb.2 it (Ne.symm hne)).trans q, hne⟩, fun b hb => ?_⟩
    · have e1 : ((i + 1 : Nat) : Int) = (i : Int) + 1 := by omega
      rw [e1]; exact he'
    · have hb' : b < s.heap.objs.size := by
        rcases (by simpa using hb : b = e ∨ b = it) with z | z <;> rw [z] <;> assumption
      rw [upd_ne (Nat.ne_of_lt hb')]
      exact (hf b hb).1
  done := by
    intro X hP hw hK hc i pins s σ H E I hf st hg
    subst hP hw hK
    obtain ⟨⟨old, he⟩, hit, hne⟩ := st
    obtain ⟨xs, hq, hx⟩ := hg
    obtain ⟨its, rv, ht, hz⟩ := I.tuple hq
    obtain ⟨f0, f1, f2, f3, f4, f5⟩ := hf it (by simp)
    have hl := rv.length
    have nta := tupiter_ne hit ht
    have Dr := Draws.tuple (prog := X.prog) (w := X.w) (A := X.A.in1) (I.ok.hd hc) it a nta its.toArray
    have ei : i = its.toArray.size := by simp; omega
    subst ei
    exact wpAny_pyNext_enum_endD Dr he ⟨hit, ht⟩ fun h' eb => ⟨rfl, I.turned (t' := s.toks) (fun b o hb q => eb b o hb q) f0 f1 f3 f4 f5⟩
  self := fun A i s Q E st h => let ⟨⟨_, he⟩, _⟩ := st; wpAny_pyIter_enum he h

def iEnumT (K : PySem.W.Frag) (ta : TA) : TI := fun σ H R => ta σ H fun vs H1 => ∃ a xs, vs = [.ref a] ∧ SqT K H1 a xs ∧ R (IteT K a) H1
theorem pi_enumT {X : Cx} {e : Expr} {ta : TA} {p pos tpos : Pos} {elts : List Expr} {kk : Nat} (hg : Gl X "enumerate") (hm : X.mg "enumerate" = none) (ha : PA X [e] ta) (hs : starEach [e] X.env = [(false, eval e X.env)] := by rfl) :
    PI X (.Tuple elts kk tpos) (.Call (.Name "enumerate" p) [e] [] pos) (iEnumT X.K ta) := by
  refine ⟨fun pins s σ H R I h => ?_⟩
  refine Call_ (ld_blt I hg hm boot_enumerate (PyProof.Rows.callWith_type1 (thn (ha.run pos pins s σ H _ I h) fun us s1 ⟨vs, H1, I1, r1, q1⟩ => ?_) hs rfl))
  obtain ⟨a, xs, rfl, hq, q⟩ := q1
  cases r1 with
  | cons r rr =>
    cases rr
    cases r
    obtain ⟨its, rv, ht, hz⟩ := I1.tuple hq
    refine enum_call1 (begins_tuple a its.toArray) ht fun h' he hit hsz hk => wpAny_pyIter_enum he ?_
    have I2 : Inv X pins σ H1 { s1 with heap := h' } := I1.kept (t' := s1.toks) hk
    refine ⟨s1.heap.objs.size + 1, [s1.heap.objs.size + 1, s1.heap.objs.size], _, _, H1, rfl, I2, turn_enumT a _ _, ⟨⟨.none, he⟩, ⟨_, hit, rfl, rfl⟩, Nat.succ_ne_self _⟩, fun b hb => ?_, q⟩
    have hle : s1.heap.objs.size ≤ b := by
      rcases (by simpa using hb : b = s1.heap.objs.size + 1 ∨ b = s1.heap.objs.size) with z | z <;> rw [z]
      · exact Nat.le_add_right _ _
      · exact Nat.le_refl _
    exact I1.fpOk hle (I1.hok.fresh hle)
/-- the loop's word over it: Pv at the turn, the slots, the heap -/
theorem for_enumT {K : PySem.W.Frag} {a : Addr} {xs : List V} {g : TG} {tb : TS} {D : Ends} {σ : L2.St} {H : Hp} (Pv : Nat → L2.St → Hp → Prop) (h0 : Pv 0 σ H) (hl : ∀ i σ H, i ≤ xs.length → Pv i σ H → SqT K H a xs)
    (hs : ∀ i x σ H T, xs[i]? = some x → Pv i σ H → H T = none → g (.ref T) σ (upd H T (.tup [.int (i : Nat), x])) fun σ2 H2 => tb { D with nx := Pv (i + 1), ct := Pv (i + 1), bk := D.nx } σ2 H2) (hd : ∀ σ H, Pv xs.length σ H → D.nx σ H) :
    ∃ W : Nat → Nat → L2.St → Hp → Prop, (∃ m, W 0 m σ H) ∧ ∀ i m σ H, W i m σ H →
      ((IteT K a).stop i H ∧ D.nx σ H) ∨ ((IteT K a).go i H ∧ ∃ N : L2.St → Hp → Prop, (∀ σ' H', N σ' H' → ∃ m', m' < m ∧ W (i + 1) m' σ' H') ∧ ∀ x H', (IteT K a).yld i H x H' → g x σ H' fun σ2 H2 => tb { D with nx := N, ct := N, bk := D.nx } σ2 H2) := by
  refine ⟨fun i m σ H => m = xs.length - i ∧ i ≤ xs.length ∧ Pv i σ H, ⟨xs.length, by simp, Nat.zero_le _, h0⟩, ?_⟩
  rintro i m σ H ⟨rfl, hi, p⟩
  have q := hl i σ H hi p
  by_cases hlt : i < xs.length
  · refine .inr ⟨⟨xs, xs[i], q, by simp [hlt]⟩, Pv (i + 1), fun σ' H' p' => ⟨xs.length - (i + 1), by omega, rfl, hlt, p'⟩, fun x H' y => ?_⟩
    obtain ⟨T, x', rfl, hT, rfl, hx⟩ := y
    exact hs i x' σ H T (hx xs q) p hT
  · have e : i = xs.length := by omega
    subst e
    exact .inl ⟨⟨xs, q, rfl⟩, hd σ H p⟩
end K89
set_option Elab.async false
set_option linter.all false
set_option maxRecDepth 100000
set_option maxHeartbeats 4000000
namespace K89
open PySem PySem.Spec PyProof.Rows L2
section
variable {X : Cx}
/-! ### xs[i] read by values, for xs[i] op= e -/
theorem pget_list : PGet X (rIxL X.K) := by
  intro pins s σ H o i ov iv Q I ro ri h
  obtain ⟨p, xs, j, v, rfl, rfl, hs, ha, q⟩ := h
  cases ro
  obtain ⟨t, rfl⟩ := ri
  obtain ⟨its, rv, pl, hz⟩ := I.list hs
  obtain ⟨m, h1, h2, h3, h4, h5⟩ := atI_get ha
  obtain ⟨w, ew, rw'⟩ := rv.get h2
  have hl := rv.length
  have h63 := line63
  have fin : EP X pins σ Q w s := ⟨v, H, I, rw', q⟩
  by_cases h0 : 0 ≤ j
  · have hj : j.toNat = m := by
      rw [seqIndex_of h0 h5] at h1
      exact Option.some.inj h1
    exact wpAny_getItem_list pl.isList h0 (by omega) (by rw [hj]; simpa using ew) fin
  · have hj : (j + (its.toArray.size : Int)).toNat = m := by
      rw [seqIndex_neg (by omega) h4] at h1
      rw [List.size_toArray, ← hl]
      exact Option.some.inj h1
    exact wpAny_getItem_list_neg pl.isList (by omega) (by rw [List.size_toArray]; omega) (by omega) (by rw [hj]; simpa using ew) fin

/-! ### ** of written numbers of any size -/
def CPowX (i j : Int) : Prop := 0 ≤ j ∧ (Builtin.Int.intBits i : Int) * j ≤ 2 ^ 27
theorem op_powX : OpR X (binaryOp .Pow) (rI CPowX fun i j => .int (i ^ j.toNat)) := opI fun _ _ _ _ _ _ _ hc q => pow_int hc.1 hc.2 q

/-! ### min(xs), xs pairs of whole numbers -/
def rMinP (K : PySem.W.Frag) : List V → Hp → VK → Prop := fun vs H Q => ∃ (a : Addr) (xs : List V) (k : V → Int × Int), vs = [V.ref a] ∧ SqL K H a xs ∧ xs ≠ [] ∧
  (∀ x ∈ xs, ∃ t, x = V.ref t ∧ H t = some (.tup [.int (k x).1, .int (k x).2])) ∧ (∀ x ∈ xs, ∀ y ∈ xs, (k x).1 = (k y).1 → (k x).2 = (k y).2) ∧
  ∀ z ∈ xs, (∀ y ∈ xs, (k z).1 ≤ (k y).1) → Q z H
theorem lex2 {a b c d : Int} (h : a = c → b = d) : HT.lexLt [a, b] [c, d] = decide (a < c) := by
  simp only [HT.lexLt]
  by_cases e : a = c
  · have e2 := h e
    subst e
    subst e2
    simp
  · simp [e]
theorem cr_minP (hc : X.calm = true) (hu : X.A.units + 1 < cLine) : CallR X (.builtin "min") (rMinP X.K) := by
  intro pins s σ H vs us Q I r h
  obtain ⟨a, xs, k, rfl, hs, hne, hx, hinj, q⟩ := h
  obtain ⟨its, rv, hl, hz⟩ := I.list hs
  obtain ⟨u, rfl, ru⟩ := vals1 r
  obtain rfl : u = Value.ref a := ru
  have hh := I.ok.hd hc
  have hlen := rv.length
  have h0 : 0 < xs.length := List.length_pos_iff.mpr hne
  have num : ∀ i (hi : i < xs.length), (((xs[i]?.map k).getD (0, 0)).1 : Int) = (k xs[i]).1 := fun i hi => by simp [hi]
  refine PySem.call_min_walkH (PySem.W.iter_listW (A := X.A.in1) hh hl.isList fun s₂ e W st hfp hw hk => ?_)
  refine ⟨_, _, _, _, _, _, _, s.heap, fun i j => decide (((xs[i]?.map k).getD (0, 0)).1 < ((xs[j]?.map k).getD (0, 0)).1), rfl, W, st, hfp, by rw [List.size_toArray]; omega, hw, hk, ?_, fun v s' hP m => ?_⟩
  · intro i j vi vj s' Q' E' hk' hi hj hq
    have hi1 : its[i]? = some vi := by simpa using hi
    have hj1 : its[j]? = some vj := by simpa using hj
    have li : i < xs.length := by have := (List.getElem?_eq_some_iff.mp hi1).1; omega
    have lj : j < xs.length := by have := (List.getElem?_eq_some_iff.mp hj1).1; omega
    obtain ⟨ti, ei, hti⟩ := hx xs[i] (List.getElem_mem li)
    obtain ⟨tj, ej, htj⟩ := hx xs[j] (List.getElem_mem lj)
    obtain ⟨wi, e1, r1⟩ := rv.get (List.getElem?_eq_getElem li)
    obtain ⟨wj, e2, r2⟩ := rv.get (List.getElem?_eq_getElem lj)
    rw [hi1] at e1
    rw [hj1] at e2
    cases e1
    cases e2
    rw [ei] at r1
    rw [ej] at r2
    cases r1
    cases r2
    obtain ⟨is1, v1, p1, _⟩ := I.tuple (SqT.of hti)
    obtain ⟨is2, v2, p2, _⟩ := I.tuple (SqT.of htj)
    have isInts : ∀ {a b : Int} {us : List Value}, Vals [.int a, .int b] us → IntsAre us [a, b] := fun {a b us} v => by
      cases v with
      | cons r t =>
        cases t with
        | cons r' t' =>
          cases t'
          obtain ⟨t, rfl⟩ := r
          obtain ⟨t', rfl⟩ := r'
          exact .cons _ _ (.cons _ _ .nil)
    dsimp only at hq
    rw [num i li, num j lj] at hq
    have st1 : ∀ {t : Addr} {it : Array Value}, IsTup s.heap t it → IsTup s'.heap t it := fun {t it} p => let ⟨o, e, c⟩ := p; ⟨o, hk' _ _ e, c⟩
    refine HT.lt_tupInts (st1 p1) (st1 p2) (isInts v1) (isInts v2) hu ?_
    rw [lex2 (hinj _ (List.getElem_mem li) _ (List.getElem_mem lj))]
    exact hq
  · obtain ⟨h', tk, rfl, hk'⟩ := PySem.W.moved_old e rfl m
    have I' : Inv X pins σ H { s with heap := h', toks := tk } := I.kept hk'
    have bt := argBest_lt (fun i => (((xs[i]?.map k).getD (0, 0)).1 : Int)) (its.toArray.size - 1)
    generalize hb : argBest (fun i j => decide (((xs[i]?.map k).getD (0, 0)).1 < ((xs[j]?.map k).getD (0, 0)).1)) (its.toArray.size - 1) = b at hP bt
    have hP1 : its[b]? = some v := by simpa using hP
    have lb : b < xs.length := by have := (List.getElem?_eq_some_iff.mp hP1).1; omega
    obtain ⟨w, e1, r1⟩ := rv.get (List.getElem?_eq_getElem lb)
    rw [hP1] at e1
    cases e1
    refine ⟨xs[b], H, I', r1, q _ (List.getElem_mem lb) fun y hy => ?_⟩
    obtain ⟨j, lj, rfl⟩ := List.getElem_of_mem hy
    have := bt.2 j (by rw [List.size_toArray]; omega)
    rw [num j lj, num b lb] at this
    exact this
end
end K89
set_option Elab.async false
set_option linter.all false
set_option maxRecDepth 100000
set_option maxHeartbeats 4000000
namespace K89
open PySem PySem.Spec PyProof.Rows L2

/-! ### zip(a, b, strict=True) over two lists of one length -/
abbrev kwStrict (v : Value) : List (Str × Value) := [(Str.ofString "strict", v)]
theorem typeCall_zipS (a b c : Value) : checkTypeCall "zip" ⟨[a, b], kwStrict c⟩ = pure () := by kernel_rfl
theorem newCall_zipS (a b c : Value) : checkBuiltinCall "zip.__new__" ⟨[.type "zip", a, b], kwStrict c⟩ = pure () := by kernel_rfl
theorem args_initS (o a b c : Value) : argsOk "object.__init__" ⟨[o, a, b], kwStrict c⟩ := by unfold argsOk; kernel_rfl
/-- a strict zip over the iterators that the tuple TI holds -/
abbrev IsZipS (h : Heap) (z TI TO : Addr) (f0 : Value) : Prop := h.get? z = some { cls := .type "zip", dict := none, data := .fields #[f0, .bool false, .bool true, .ref TI, .ref TO], slots := #[] }
abbrev zsIt (l : Addr) : Obj := { cls := .type "list_iterator", data := .fields #[.ref l, .int 0 0] }
abbrev zsTI (n : Nat) : Obj := { cls := .type "tuple", data := .seq #[.ref n, .ref (n + 1)] }
abbrev zsTO : Obj := { cls := .type "tuple", data := .seq #[.none, .none] }
abbrev zsZ (n : Nat) : Obj := { cls := .type "zip", data := .fields #[.none, .bool false, .bool true, .ref (n + 2), .ref (n + 3)] }
abbrev zsHeap (h : Heap) (l1 l2 : Addr) : Heap := ((((h.push (zsIt l1)).push (zsIt l2)).push (zsTI h.objs.size)).push zsTO).push (zsZ h.objs.size)

theorem zsN1 (h : Heap) (o : Obj) : (h.push o).objs.size = h.objs.size + 1 := Heap.size_push ..
theorem zipS_new (l1 l2 : Addr) (xs ys : Array Value) :
    Meets (Builtin.«zip.__new__» ⟨[.type "zip", .ref l1, .ref l2], kwStrict (.bool true)⟩) (fun _ R s => s.heap.IsList l1 xs ∧ s.heap.IsList l2 ys ∧
      R (.ok (.ret (.ref (s.heap.objs.size + 4)))) { s with heap := zsHeap s.heap l1 l2 }) :=
  .of_wp fun prog w A R s h => by
    obtain ⟨hp, g, d, tk, os⟩ := s
    obtain ⟨h1, h2, h⟩ := h
    have hsub := sub_zip
    have e1 : (Str.ofString "strict" != ("strict" : Str)) = false := by decide +kernel
    have L1 : Heap.IsList (Shared.heap ⟨hp, g, d, tk, os⟩) l1 xs := h1
    have L2 : Heap.IsList (Shared.heap ⟨hp.push (zsIt l1), g, d, tk, os⟩) l2 ys := Heap.IsList.push h2 _
    simp only [zsHeap, zsN1] at h
    wp_walk using wpAny_pyIter_list L1, wpAny_pyIter_list L2
    simp only [zsN1]
    exact ⟨_, rfl, h⟩
section
variable {prog : Program} {w : World} {A : Around} {E : Value → Shared → Prop} {s : Shared}
theorem call_zipS {l1 l2 : Addr} {xs ys : Array Value} {Q : Value → Shared → Prop} (h1 : s.heap.IsList l1 xs) (h2 : s.heap.IsList l2 ys)
    (h : ∀ h', IsZipS h' (s.heap.objs.size + 4) (s.heap.objs.size + 2) (s.heap.objs.size + 3) .none → IsPair h' (s.heap.objs.size + 2) (.ref s.heap.objs.size) (.ref (s.heap.objs.size + 1)) →
      IsPair h' (s.heap.objs.size + 3) .none .none → h'.IsListIter s.heap.objs.size l1 0 → h'.IsListIter (s.heap.objs.size + 1) l2 0 → h'.objs.size = s.heap.objs.size + 5 →
      (∀ c o, s.heap.get? c = some o → h'.get? c = some o) → Q (.ref (s.heap.objs.size + 4)) { s with heap := h' }) :
    wpAny (model prog w) A (call (.type "zip") [.ref l1, .ref l2] (kwStrict (.bool true))) Q E s := by
  refine callType_newKw F.called_zip (by decide) (typeCall_zipS _ _ _) (newCall_zipS _ _ _) (fun obj => args_initS obj _ _ _) F.entry_zip_new (zipS_new l1 l2 xs ys) ⟨h1, h2, ?_⟩
  have up : ∀ {h : Heap} {o : Obj} {c : Addr} {u : Obj}, h.get? c = some u → (h.push o).get? c = some u := fun e => Heap.get?_push_of_some _ e
  have at' : ∀ (h : Heap) (o : Obj) (k : Nat), h.objs.size = k → o.isFreed = false → (h.push o).get? k = some o := fun h o k e f => by
    subst e
    exact Heap.get?_push_size _ f
  have g0 : (zsHeap s.heap l1 l2).get? s.heap.objs.size = some (zsIt l1) := up (up (up (up (at' _ _ _ rfl rfl))))
  have g1 : (zsHeap s.heap l1 l2).get? (s.heap.objs.size + 1) = some (zsIt l2) := up (up (up (at' _ _ _ (by simp only [zsN1]) rfl)))
  have g2 : (zsHeap s.heap l1 l2).get? (s.heap.objs.size + 2) = some (zsTI s.heap.objs.size) := up (up (at' _ _ _ (by simp only [zsN1]) rfl))
  have g3 : (zsHeap s.heap l1 l2).get? (s.heap.objs.size + 3) = some zsTO := up (at' _ _ _ (by simp only [zsN1]) rfl)
  have g4 : (zsHeap s.heap l1 l2).get? (s.heap.objs.size + 4) = some (zsZ s.heap.objs.size) := at' _ _ _ (by simp only [zsN1]) rfl
  exact ⟨⟨_, g4, rfl⟩, h _ g4 g2 g3 ⟨_, g0, rfl, rfl⟩ ⟨_, g1, rfl, rfl⟩ (by simp only [zsN1]) fun c o e => up (up (up (up (up e))))⟩
end
end K89
set_option Elab.async false
set_option linter.all false
set_option maxRecDepth 100000
set_option maxHeartbeats 4000000
namespace K89
open PySem PySem.Spec PyProof.Rows L2
section
variable {prog : Program} {w : World} {A : Around} {E : Value → Shared → Prop} {s : Shared}
/-- a list's iterator asked by a strict zip: an item; the end -/
theorem orEnd_item {it l : Addr} {i : Nat} {xs : Array Value} {x : Value} {Q : Option Value → Shared → Prop} (hi : s.heap.IsListIter it l i) (hl : s.heap.IsList l xs) (hx : xs[i]? = some x)
    (h : ∀ h', h'.IsListIter it l (i + 1) → Heap.SameBut it s.heap h' → Q (some x) { s with heap := h' }) : wpAny (model prog w) A (Builtin.SmallTypes.nextOrEnd (.ref it)) Q E s := by
  unfold Builtin.SmallTypes.nextOrEnd
  exact wpAny_bind (wpAny_attempt (wpAny_nextOf_list_item hi hl hx fun h' a b => wpAny_pure (h h' a b)))
theorem orEnd_end {it l : Addr} {i : Nat} {xs : Array Value} {Q : Option Value → Shared → Prop} (hh : A.handled = none) (hi : s.heap.IsListIter it l i) (hl : s.heap.IsList l xs) (hx : xs[i]? = none)
    (h : ∀ h', Heap.ExtBut it s.heap h' → Q none { s with heap := h' }) : wpAny (model prog w) A (Builtin.SmallTypes.nextOrEnd (.ref it)) Q E s := by
  unfold Builtin.SmallTypes.nextOrEnd
  refine wpAny_bind (wpAny_attempt (wpAny_nextOf_list_end hh hi hl hx fun h' e ext ho => ?_))
  obtain ⟨o, eo, co⟩ := ho
  refine wpAny_bind (wpAny_isInstance (T := "StopIteration") (b := true) ⟨o, eo, co⟩ isSubtype_stop ?_)
  exact wpAny_pure (h h' ext)

theorem zipS_item {z TI TO i1 i2 l1 l2 : Addr} {k1 k2 : Nat} {xs ys : Array Value} {x y a b : Value} {Q : Value → Shared → Prop} (D : ZipApart z TI TO i1 i2 l1 l2)
    (hz : IsZipS s.heap z TI TO .none) (hTI : IsPair s.heap TI (.ref i1) (.ref i2)) (hTO : IsPair s.heap TO a b)
    (h1 : s.heap.IsListIter i1 l1 k1) (h2 : s.heap.IsListIter i2 l2 k2) (hl1 : s.heap.IsList l1 xs) (hl2 : s.heap.IsList l2 ys) (hx : xs[k1]? = some x) (hy : ys[k2]? = some y)
    (hQ : ∀ h', IsZipS h' z TI TO (rawInt s.heap.objs.size) → IsPair h' TO x y → h'.IsListIter i1 l1 (k1 + 1) → h'.IsListIter i2 l2 (k2 + 1) → IsPair h' s.heap.objs.size x y → h'.objs.size = s.heap.objs.size + 1 →
      (∀ c o, c ≠ z → c ≠ TO → c ≠ i1 → c ≠ i2 → s.heap.get? c = some o → h'.get? c = some o) → Q (.ref s.heap.objs.size) { s with heap := h' }) :
    wpAny (model prog w) A (Builtin.«zip.__next__» ⟨[.ref z], []⟩) (fun fin s' => ∃ v, fin = .done (.ret v) ∧ Q v s') E s := by
  show wpAny _ _ (field (.ref z) 2 >>= _) _ _ _
  refine wpAny_bind (wpAny_field hz rfl (x := .bool true) rfl ?_)
  show wpAny _ _ (field (.ref z) 3 >>= _) _ _ _
  refine wpAny_bind (wpAny_field hz rfl (x := .ref TI) rfl (wpAny_bind (wpAny_seqItems hTI rfl ?_)))
  show wpAny _ _ (Builtin.SmallTypes.ownedTupleIsFree (.ref z) >>= _) _ _ _
  refine wpAny_bind ?_
  unfold Builtin.SmallTypes.ownedTupleIsFree
  refine wpAny_bind (wpAny_field hz rfl (x := .none) rfl (wpAny_pure ?_))
  simp only [if_true]
  refine wpAny_bind (wpAny_rule (wpAny_bind (wpAny_field hz rfl (x := .ref TO) rfl ?_)))
  refine wpAny_bind (wpAny_setField_rec hz (by simp) fun m1 z1 b1 => ?_)
  have z1' : IsZipS m1 z TI TO .ellipsis := z1
  refine wpAny_bind ?_
  simp only [List.zipIdx_cons, List.zipIdx_nil, List.forIn_cons, List.forIn_nil]
  -- the first one
  refine wpAny_bind (wpAny_bind (wpAny_onRaise ?_))
  show wpAny _ _ (Builtin.SmallTypes.nextOrEnd (.ref i1)) _ _ _
  refine orEnd_item (h1.extBut b1.extBut D.i1z) (hl1.extBut b1.extBut D.l1z) hx fun m2 t2 b2 => ?_
  have p2 : IsPair m2 TO a b := b2.extBut _ _ D.TOi1 (b1.extBut _ _ D.TOz hTO)
  refine wpAny_bind (wpAny_seqItems p2 rfl (wpAny_bind (wpAny_updateSeq_pair p2 fun m3 p3 b3 => ?_)))
  have p3' : IsPair m3 TO x b := p3
  refine wpAny_bind (wpAny_letGo (wpAny_pure ?_))
  -- the second one
  refine wpAny_bind (wpAny_bind (wpAny_onRaise ?_))
  show wpAny _ _ (Builtin.SmallTypes.nextOrEnd (.ref i2)) _ _ _
  refine orEnd_item (((h2.extBut b1.extBut D.i2z).extBut b2.extBut D.i12.symm).extBut b3.extBut D.TOi2.symm) (((hl2.extBut b1.extBut D.l2z).extBut b2.extBut D.l2i1).extBut b3.extBut D.l2TO) hy fun m4 t4 b4 => ?_
  have p4 : IsPair m4 TO x b := b4.extBut _ _ D.TOi2 p3'
  refine wpAny_bind (wpAny_seqItems p4 rfl (wpAny_bind (wpAny_updateSeq_pair p4 fun m5 p5 b5 => ?_)))
  have p5' : IsPair m5 TO x y := p5
  refine wpAny_bind (wpAny_letGo (wpAny_pure (wpAny_pure ?_)))
  refine wpAny_bind (wpAny_seqItems p5' rfl (wpAny_bind (wpAny_newTuple ?_)))
  have sz : m5.objs.size = s.heap.objs.size := by rw [b5.1, b4.1, b3.1, b2.1, b1.1]
  have z5 : IsZipS m5 z TI TO .ellipsis := b5.extBut _ _ D.TOz.symm (b4.extBut _ _ D.i2z.symm (b3.extBut _ _ D.TOz.symm (b2.extBut _ _ D.i1z.symm z1')))
  have keep5 : ∀ c o, c ≠ z → c ≠ TO → c ≠ i1 → c ≠ i2 → s.heap.get? c = some o → m5.get? c = some o := fun c o n1 n2 n3 n4 e =>
    b5.extBut _ _ n2 (b4.extBut _ _ n4 (b3.extBut _ _ n2 (b2.extBut _ _ n3 (b1.extBut _ _ n1 e))))
  have t15 : m5.IsListIter i1 l1 (k1 + 1) := ((t2.extBut b3.extBut D.TOi1.symm).extBut b4.extBut D.i12).extBut b5.extBut D.TOi1.symm
  have t25 : m5.IsListIter i2 l2 (k2 + 1) := t4.extBut b5.extBut D.TOi2.symm
  have zlt : z < m5.objs.size := Heap.lt_size z5
  show wpAny _ _ (Builtin.SmallTypes.ownedTupleHandOut (.ref z) (.ref m5.objs.size) >>= _) _ _ _
  refine wpAny_bind ?_
  unfold Builtin.SmallTypes.ownedTupleHandOut
  have z6 : IsZipS (m5.push { cls := .type "tuple", data := .seq #[x, y] }) z TI TO .ellipsis := Heap.get?_push_of_some _ z5
  refine wpAny_bind (wpAny_setField_rec z6 (by simp) fun m7 z7 b7 => ?_)
  have z7' : IsZipS m7 z TI TO (rawInt m5.objs.size) := z7
  refine wpAny_setField_rec z7' (by simp) fun m8 z8 b8 => ?_
  have z8' : IsZipS m8 z TI TO (rawInt m5.objs.size) := z8
  have up : ∀ c o, c ≠ z → m5.get? c = some o → m8.get? c = some o := fun c o n1 e => b8.extBut _ _ n1 (b7.extBut _ _ n1 (Heap.get?_push_of_some _ e))
  have new : IsPair m8 m5.objs.size x y := b8.extBut _ _ (Nat.ne_of_gt zlt) (b7.extBut _ _ (Nat.ne_of_gt zlt) (Heap.get?_push_size _ rfl))
  have sz8 : m8.objs.size = m5.objs.size + 1 := by rw [b8.1, b7.1, Heap.size_push]
  rw [sz] at z8' new sz8
  refine wpAny_pure ⟨_, rfl, ?_⟩
  show Q (.ref m5.objs.size) _
  rw [sz]
  exact hQ m8 z8' (up _ _ D.TOz p5') (t15.at fun o e => up _ o D.i1z e) (t25.at fun o e => up _ o D.i2z e) new sz8 fun c o n1 n2 n3 n4 e => up c o n1 (keep5 c o n1 n2 n3 n4 e)

theorem zipS_end {z TI TO i1 i2 l1 l2 : Addr} {k1 k2 : Nat} {xs ys : Array Value} {a b : Value} {Q : Fin → Shared → Prop} (hh : A.handled = none) (D : ZipApart z TI TO i1 i2 l1 l2)
    (hz : IsZipS s.heap z TI TO .none) (hTI : IsPair s.heap TI (.ref i1) (.ref i2)) (hTO : IsPair s.heap TO a b)
    (h1 : s.heap.IsListIter i1 l1 k1) (h2 : s.heap.IsListIter i2 l2 k2) (hl1 : s.heap.IsList l1 xs) (hl2 : s.heap.IsList l2 ys) (hx : xs[k1]? = none) (hy : ys[k2]? = none)
    (hE : ∀ h' e, (∀ c o, c ≠ z → c ≠ TO → c ≠ i1 → c ≠ i2 → s.heap.get? c = some o → h'.get? c = some o) → (∃ o, h'.get? e = some o ∧ o.cls = .type "StopIteration") → E (.ref e) { s with heap := h' }) :
    wpAny (model prog w) A (Builtin.«zip.__next__» ⟨[.ref z], []⟩) Q E s := by
  show wpAny _ _ (field (.ref z) 2 >>= _) _ _ _
  refine wpAny_bind (wpAny_field hz rfl (x := .bool true) rfl ?_)
  show wpAny _ _ (field (.ref z) 3 >>= _) _ _ _
  refine wpAny_bind (wpAny_field hz rfl (x := .ref TI) rfl (wpAny_bind (wpAny_seqItems hTI rfl ?_)))
  show wpAny _ _ (Builtin.SmallTypes.ownedTupleIsFree (.ref z) >>= _) _ _ _
  refine wpAny_bind ?_
  unfold Builtin.SmallTypes.ownedTupleIsFree
  refine wpAny_bind (wpAny_field hz rfl (x := .none) rfl (wpAny_pure ?_))
  simp only [if_true]
  refine wpAny_bind (wpAny_rule (wpAny_bind (wpAny_field hz rfl (x := .ref TO) rfl ?_)))
  refine wpAny_bind (wpAny_setField_rec hz (by simp) fun m1 z1 b1 => ?_)
  have z1' : IsZipS m1 z TI TO .ellipsis := z1
  refine wpAny_bind ?_
  simp only [List.zipIdx_cons, List.zipIdx_nil, List.forIn_cons, List.forIn_nil]
  refine wpAny_bind (wpAny_bind (wpAny_onRaise ?_))
  show wpAny _ _ (Builtin.SmallTypes.nextOrEnd (.ref i1)) _ _ _
  refine orEnd_end hh (h1.extBut b1.extBut D.i1z) (hl1.extBut b1.extBut D.l1z) hx fun m2 b2 => ?_
  have z2 : IsZipS m2 z TI TO .ellipsis := b2 _ _ D.i1z.symm z1'
  refine wpAny_bind (wpAny_setField_rec z2 (by simp) fun m3 z3 b3 => ?_)
  refine wpAny_bind ?_
  show wpAny _ _ (forIn [(Value.ref i2, 1)] PUnit.unit _ >>= _) _ _ _
  refine wpAny_bind ?_
  simp only [List.forIn_cons, List.forIn_nil]
  refine wpAny_bind (wpAny_bind ?_)
  refine orEnd_end hh (((h2.extBut b1.extBut D.i2z).at fun o e => b2 _ o D.i12.symm e).extBut b3.extBut D.i2z) (((hl2.extBut b1.extBut D.l2z).at fun o e => b2 _ o D.l2i1 e).extBut b3.extBut D.l2z) hy fun m4 b4 => ?_
  refine wpAny_pure (wpAny_pure (wpAny_bind (wpAny_rule ?_)))
  have keep : ∀ c o, c ≠ z → c ≠ TO → c ≠ i1 → c ≠ i2 → s.heap.get? c = some o → m4.get? c = some o := fun c o n1 n2 n3 n4 e => b4 _ _ n4 (b3.extBut _ _ n1 (b2 _ _ n3 (b1.extBut _ _ n1 e)))
  show wpAny _ _ (newExc (.type "StopIteration") [] >>= _) _ _ _
  refine wpAny_bind ?_
  simp only [newExc, newTuple]
  refine wpAny_bind (wpAny_newObj_type ?_ (by size_fits))
  refine wpAny_bind (m := firstArgMember _ _) (wpAny_of_eq (a := Value.none) (by first | rfl | (simp only [firstArgMember]; rfl)) ?_)
  refine wpAny_newObj_type ?_ (by size_fits)
  simp only [raiseNew]
  refine wpAny_bind (wpAny_handled ?_)
  rw [hh]
  refine wpAny_throw ?_
  exact hE _ _ (fun c o n1 n2 n3 n4 e => Heap.get?_push_of_some _ (Heap.get?_push_of_some _ (keep c o n1 n2 n3 n4 e))) ⟨_, Heap.get?_push_size _ rfl, rfl⟩
end
end K89
set_option Elab.async false
set_option linter.all false
set_option maxRecDepth 100000
set_option maxHeartbeats 4000000
namespace K89
open PySem PySem.Spec PyProof.Rows L2
section
variable {prog : Program} {w : World} {A : Around} {E : Value → Shared → Prop} {s : Shared}
theorem nextS_item {z TI TO i1 i2 l1 l2 : Addr} {k1 k2 : Nat} {xs ys : Array Value} {x y a b : Value} {Q : Option Value → Shared → Prop} (D : ZipApart z TI TO i1 i2 l1 l2)
    (hz : IsZipS s.heap z TI TO .none) (hTI : IsPair s.heap TI (.ref i1) (.ref i2)) (hTO : IsPair s.heap TO a b)
    (h1 : s.heap.IsListIter i1 l1 k1) (h2 : s.heap.IsListIter i2 l2 k2) (hl1 : s.heap.IsList l1 xs) (hl2 : s.heap.IsList l2 ys) (hx : xs[k1]? = some x) (hy : ys[k2]? = some y)
    (hQ : ∀ h', IsZipS h' z TI TO (rawInt s.heap.objs.size) → IsPair h' TO x y → h'.IsListIter i1 l1 (k1 + 1) → h'.IsListIter i2 l2 (k2 + 1) → IsPair h' s.heap.objs.size x y → h'.objs.size = s.heap.objs.size + 1 →
      (∀ c o, c ≠ z → c ≠ TO → c ≠ i1 → c ≠ i2 → s.heap.get? c = some o → h'.get? c = some o) → Q (some (.ref s.heap.objs.size)) { s with heap := h' }) :
    wpAny (model prog w) A (pyNext (.ref z)) Q E s := by
  have ty : s.TypeIs (.ref z) "zip" := ⟨_, hz, rfl⟩
  unfold pyNext
  refine wpAny_bind (wpAny_attempt (wpAny_callSpecial?_slot (name := Str.ofString "__next__") ty F.slot_zip_next (wpAny_call_entry F.slot_zip_next ty F.entry_zip_next ?_ (F.args_zip_next_1 _))))
  exact zipS_item D hz hTI hTO h1 h2 hl1 hl2 hx hy fun h' c1 c2 c3 c4 c5 c6 c7 => wpAny_pure (hQ h' c1 c2 c3 c4 c5 c6 c7)
theorem nextS_end {z TI TO i1 i2 l1 l2 : Addr} {k1 k2 : Nat} {xs ys : Array Value} {a b : Value} {Q : Option Value → Shared → Prop} (hh : A.handled = none) (D : ZipApart z TI TO i1 i2 l1 l2)
    (hz : IsZipS s.heap z TI TO .none) (hTI : IsPair s.heap TI (.ref i1) (.ref i2)) (hTO : IsPair s.heap TO a b)
    (h1 : s.heap.IsListIter i1 l1 k1) (h2 : s.heap.IsListIter i2 l2 k2) (hl1 : s.heap.IsList l1 xs) (hl2 : s.heap.IsList l2 ys) (hx : xs[k1]? = none) (hy : ys[k2]? = none)
    (hQ : ∀ h', (∀ c o, c ≠ z → c ≠ TO → c ≠ i1 → c ≠ i2 → s.heap.get? c = some o → h'.get? c = some o) → Q none { s with heap := h' }) : wpAny (model prog w) A (pyNext (.ref z)) Q E s :=
  by
  have ty : s.TypeIs (.ref z) "zip" := ⟨_, hz, rfl⟩
  unfold pyNext
  refine wpAny_bind (wpAny_attempt (wpAny_callSpecial?_slot (name := Str.ofString "__next__") ty F.slot_zip_next (wpAny_call_entry F.slot_zip_next ty F.entry_zip_next
    (zipS_end (A := A.in1) hh D hz hTI hTO h1 h2 hl1 hl2 hx hy fun h' e keep he => ?_) (F.args_zip_next_1 _))))
  obtain ⟨u, e1, e2⟩ := he
  refine wpAny_bind (wpAny_isInstance (T := "StopIteration") (b := true) ⟨u, e1, e2⟩ isSubtype_stop ?_)
  exact wpAny_pure (hQ h' keep)
theorem letGoS {elts : List Expr} {x1} {pos : Pos} {z TI TO T : Addr} {Q : Unit → Shared → Prop} (hz : IsZipS s.heap z TI TO (rawInt T))
    (hQ : ∀ h', IsZipS h' z TI TO .none → Heap.SameBut z s.heap h' → Q () { s with heap := h' }) : wpAny (model prog w) A (letOwnedTupleGo (.Tuple elts x1 pos) (.ref z) (.ref T)) Q E s := by
  unfold letOwnedTupleGo
  refine wpAny_bind (wpAny_load hz ?_)
  show wpAny _ _ (if (["enumerate", "zip", "dict_itemiterator", "dict_reverseitemiterator", "odict_iterator", "itertools.zip_longest", "itertools.pairwise"].contains "zip" &&
      (#[rawInt T, .bool false, .bool true, .ref TI, .ref TO] : Array Value)[0]? == some (rawInt T)) = true then _ else _) Q E s
  rw [if_pos (by simp)]
  refine wpAny_bind (wpAny_rule ?_)
  show wpAny _ _ (setField (.ref z) 0 .none) Q E s
  exact wpAny_setField_rec hz (by simp) fun h' hz' sb => hQ h' hz' sb
theorem iterS {z TI TO : Addr} {f0 : Value} {Q : Value → Shared → Prop} (hz : IsZipS s.heap z TI TO f0) (h : Q (.ref z) s) : wpAny (model prog w) A (pyIter (.ref z)) Q E s := by
  have ty : s.TypeIs (.ref z) "zip" := ⟨_, hz, rfl⟩
  refine wpAny_pyIter_slot ty F.slot_zip_iter (wpAny_call_entry F.slot_zip_iter ty F.entry_zip_iter ?_ (F.args_zip_iter_1 _))
  show wpAny _ _ (ret (.ref z)) _ _ s
  exact wpAny_pure ⟨_, rfl, "zip", _, ty, F.slot_zip_next.lookup, h⟩
end

/-- both lists, of one length, as they stand at each turn -/
def ItzS (K : PySem.W.Frag) (a b : Addr) : It where
  go := fun i H => ∃ (xs ys : List V) (x y : V), SqL K H a xs ∧ SqL K H b ys ∧ xs[i]? = some x ∧ ys[i]? = some y
  yld := fun i H v H' => ∃ T x y, v = .ref T ∧ H T = none ∧ H' = upd H T (.tup [x, y]) ∧ (∀ xs, SqL K H a xs → xs[i]? = some x) ∧ ∀ ys, SqL K H b ys → ys[i]? = some y
  stop := fun i H => ∃ xs ys : List V, SqL K H a xs ∧ SqL K H b ys ∧ xs.length ≤ i ∧ ys.length ≤ i
theorem turn_zipS {P : Program} {w : World} {K : PySem.W.Frag} {elts : List Expr} {kk : Nat} {tpos : Pos} {a b z TI TO i1 i2 : Addr} (D : ZipApart z TI TO i1 i2 a b) :
    Turn P w K (.Tuple elts kk tpos) (ItzS K a b) [z, TI, TO, i1, i2] z (fun i h => IsZipS h z TI TO .none ∧ IsPair h TI (.ref i1) (.ref i2) ∧ (∃ x y, IsPair h TO x y) ∧ h.IsListIter i1 a i ∧ h.IsListIter i2 b i) where
  mem := by simp
  obj := fun i h st c hc => by
    obtain ⟨hz, hTI, ⟨x, y, hTO⟩, ⟨o1, e1, _, d1⟩, ⟨o2, e2, _, d2⟩⟩ := st
    rcases (by simpa using hc : c = z ∨ c = TI ∨ c = TO ∨ c = i1 ∨ c = i2) with rfl | rfl | rfl | rfl | rfl
    · exact ⟨_, hz, fun v q => nomatch q⟩
    · exact ⟨_, hTI, fun v q => nomatch q⟩
    · exact ⟨_, hTO, fun v q => nomatch q⟩
    · exact ⟨o1, e1, fun v q => by rw [d1] at q; cases q⟩
    · exact ⟨o2, e2, fun v q => by rw [d2] at q; cases q⟩
  keep := fun i h h' st k => by
    obtain ⟨hz, hTI, ⟨x, y, hTO⟩, h1, h2⟩ := st
    exact ⟨k z (by simp) _ hz, k TI (by simp) _ hTI, ⟨x, y, k TO (by simp) _ hTO⟩, h1.at fun o q => k i1 (by simp) o q, h2.at fun o q => k i2 (by simp) o q⟩
  item := by
    intro X hP hw hK hc i pins s σ H E I hf st hg
    subst hP hw hK
    obtain ⟨hz, hTI, ⟨x0, y0, hTO⟩, h1, h2⟩ := st
    obtain ⟨xs, ys, x, y, hqx, hqy, hx, hy⟩ := hg
    obtain ⟨us, rv, p, _⟩ := I.list hqx
    obtain ⟨vs, rv2, p2, _⟩ := I.list hqy
    obtain ⟨u, hu, ru⟩ := rv.get hx
    obtain ⟨v, hv, rv'⟩ := rv2.get hy
    have hzl : z < s.heap.objs.size := Heap.lt_size hz
    refine nextS_item D hz hTI hTO h1 h2 p.isList p2.isList (x := u) (y := v) (by simpa using hu) (by simpa using hv) fun h' z' TO' h1' h2' hT hsz hk => ?_
    refine ⟨_, rfl, letGoS (s := { s with heap := h' }) z' fun h'' z'' sb => ?_⟩
    have hT2 : h''.get? s.heap.objs.size = some { cls := .type "tuple", data := .seq #[u, v] } := (sb.2 _ (Nat.ne_of_gt hzl)).trans hT
    have new : ObjOk X.prog X.w (upd H s.heap.objs.size (.tup [x, y])) h'' s.heap.objs.size (.tup [x, y]) :=
      ⟨by show 2 ≤ sizeLine; decide, [u, v], .cons ru (.cons rv' .nil), ⟨_, hT2, rfl, _, rfl⟩⟩
    have kk : ∀ c o, c ∉ [z, TI, TO, i1, i2] → s.heap.get? c = some o → h''.get? c = some o := fun c o hb q => by
      simp only [List.mem_cons, List.not_mem_nil, or_false, not_or] at hb
      exact (sb.2 c hb.1).trans (hk c o hb.1 hb.2.2.1 hb.2.2.2.1 hb.2.2.2.2 q)
    have I1 : Inv X pins σ (upd H s.heap.objs.size (.tup [x, y])) { s with heap := h'' } := I.turnedNew (t' := s.toks) (ch := [z, TI, TO, i1, i2]) kk hf (Nat.le_refl _) new
    refine ⟨.ref s.heap.objs.size, _, I1, rfl, ⟨_, x, y, rfl, I.hok.fresh (Nat.le_refl _), rfl, fun l hl => by rw [I.list_inj hl hqx]; exact hx, fun l hl => by rw [I.list_inj hl hqy]; exact hy⟩, ⟨z'', ?_, ⟨u, v, ?_⟩, ?_, ?_⟩, fun c hcm => ?_⟩
    · exact (sb.2 _ D.TIz).trans (hk _ _ D.TIz D.TITO D.TIi1 D.TIi2 hTI)
    · exact (sb.2 _ D.TOz).trans TO'
    · exact h1'.at fun o q => (sb.2 _ D.i1z).trans q
    · exact h2'.at fun o q => (sb.2 _ D.i2z).trans q
    · obtain ⟨o1, e1, _⟩ := h1
      obtain ⟨o2, e2, _⟩ := h2
      have hlt : c < s.heap.objs.size := by
        rcases (by simpa using hcm : c = z ∨ c = TI ∨ c = TO ∨ c = i1 ∨ c = i2) with rfl | rfl | rfl | rfl | rfl
        · exact hzl
        · exact Heap.lt_size hTI
        · exact Heap.lt_size hTO
        · exact Heap.lt_size e1
        · exact Heap.lt_size e2
      rw [upd_ne (Nat.ne_of_lt hlt)]
      exact (hf c hcm).1
  done := by
    intro X hP hw hK hc i pins s σ H E I hf st hg
    subst hP hw hK
    obtain ⟨hz, hTI, ⟨x0, y0, hTO⟩, h1, h2⟩ := st
    obtain ⟨xs, ys, hqx, hqy, e1, e2⟩ := hg
    obtain ⟨us, rv, p, _⟩ := I.list hqx
    obtain ⟨vs, rv2, p2, _⟩ := I.list hqy
    have l1 := rv.length
    have l2 := rv2.length
    refine nextS_end (I.ok.hd hc) D hz hTI hTO h1 h2 p.isList p2.isList (by simp; omega) (by simp; omega) fun h' hk => ⟨rfl, I.turnedL (t' := s.toks) (ch := [z, TI, TO, i1, i2]) (fun c o hb q => ?_) hf⟩
    simp only [List.mem_cons, List.not_mem_nil, or_false, not_or] at hb
    exact hk c o hb.1 hb.2.2.1 hb.2.2.2.1 hb.2.2.2.2 q
  self := fun A i s Q E st h => iterS st.1 h
theorem walk_zipS {K : PySem.W.Frag} {a b : Addr} {xs ys : List V} {n : Nat} (h1 : xs.length = n) (h2 : ys.length = n) : Walk (ItzS K a b) n (fun H => SqL K H a xs ∧ SqL K H b ys) (YPair (fun i => xs[i]?) (fun i => ys[i]?)) := by
  refine ⟨fun i _ hi q => ?_, fun _ q => ⟨xs, ys, q.1, q.2, by omega, by omega⟩, fun i H v H' _ q y => ?_⟩
  · have c1 : i < xs.length := by omega
    have c2 : i < ys.length := by omega
    exact ⟨xs, ys, xs[i], ys[i], q.1, q.2, by simp [c1], by simp [c2]⟩
  · obtain ⟨T, x, z, e1, e2, e3, e4, e5⟩ := y
    exact ⟨T, x, z, e1, e2, e3, e4 xs q.1, e5 ys q.2⟩
theorem walk_enumT {K : PySem.W.Frag} {a : Addr} {xs : List V} : Walk (IteT K a) xs.length (fun H => SqT K H a xs) (YPair (fun i => some (.int (i : Nat))) (fun i => xs[i]?)) := by
  refine ⟨fun i _ hi q => ⟨xs, xs[i], q, by simp [hi]⟩, fun _ q => ⟨xs, q, rfl⟩, fun i H v H' _ q y => ?_⟩
  obtain ⟨T, x, e1, e2, e3, e4⟩ := y
  exact ⟨T, .int (i : Nat), x, e1, e2, e3, rfl, e4 xs q⟩

/-- a built-in class called with keywords -/
theorem callTyKw {M : Model} {A : Around} {E : Value → Shared → Prop} {s : Shared} {env : Env} {pos : Pos} {T : String} {e : Expr} {rest : List Expr} {kws : List Keyword} {Q : Value → Shared → Prop}
    (h : wpAny M A (spliced (backTo pos (starEach (e :: rest) env))) (fun vs s₁ => wpAny M A (evalAll ((backToKw pos (keywordEach kws env)).map (·.2)))
      (fun ks s₂ => wpAny M A (call (.type T) vs (((backToKw pos (keywordEach kws env)).filterMap (·.1)).zip ks)) Q E s₂) E s₁) E s)
    (he : backTo pos (starEach (e :: rest) env) = (false, eval e env) :: backTo pos (starEach rest env)) (hpl : (backTo pos (starEach (e :: rest) env)).any (·.1) = false)
    (hall : (backToKw pos (keywordEach kws env)).all (·.1.isSome) = true) (hnone : (backToKw pos (keywordEach kws env)).any (·.1.isNone) = false) :
    wpAny M A (callWith pos (.type T) [] (backTo pos (starEach (e :: rest) env)) (backToKw pos (keywordEach kws env))) Q E s := by
  have key : wpAny M A (evalArgs (.type T) true (backTo pos (starEach (e :: rest) env)) (backToKw pos (keywordEach kws env))) (fun a s₁ => wpAny M A (call (.type T) ([] ++ a.pos) a.kw) Q E s₁) E s := by
    rw [he] at h ⊢
    exact evalArgs_kwB hall h
  unfold callWith
  refine wpAny_bind (wpAny_holding (wpAny_mono key (fun a s₁ h₁ => wpAny_bind (wpAny_standAt ?_)) fun _ _ x => x))
  simp only [hpl, hnone, Bool.or_false]
  refine wpAny_bind (wpAny_pure ?_)
  exact wpAny_bind (wpAny_mono h₁ (fun r s₂ hr => wpAny_bind (wpAny_holding (wpAny_point (wpAny_pure hr)))) fun _ _ x => x)

/-- the call zip(a, b, strict=True), whatever follows -/
def tZs (K : PySem.W.Frag) (ta tk : TA) (R : Addr → Addr → List V → List V → Hp → Prop) : L2.St → Hp → Prop := fun σ H => ta σ H fun vs H1 => tk σ H1 fun ks H2 => ∃ a b xs ys, vs = [.ref a, .ref b] ∧ ks = [.bl true] ∧ SqL K H2 a xs ∧ SqL K H2 b ys ∧ xs.length = ys.length ∧ R a b xs ys H2
theorem zs_eval {X : Cx} {e e2 : Expr} {kws : List Keyword} {ta tk : TA} {p pos : Pos} (hg : Gl X "zip") (hm : X.mg "zip" = none) (ha : PA X [e, e2] ta) (hk : PK X kws tk)
    (he : backTo pos (starEach [e, e2] X.env) = (false, eval e X.env) :: backTo pos (starEach [e2] X.env)) (hpl : (backTo pos (starEach [e, e2] X.env)).any (·.1) = false)
    (hall : (backToKw pos (keywordEach kws X.env)).all (·.1.isSome) = true) (hnone : (backToKw pos (keywordEach kws X.env)).any (·.1.isNone) = false) (hks : (backToKw pos (keywordEach kws X.env)).filterMap (·.1) = [Str.ofString "strict"])
    {pins : List (Addr × Obj)} {s : Shared} {σ : L2.St} {H : Hp} {R : Addr → Addr → List V → List V → Hp → Prop} {Q : Value → Shared → Prop} (I : Inv X pins σ H s) (h : tZs X.K ta tk R σ H)
    (hQ : ∀ (a b : Addr) (xs ys : List V) (us vs : List Value) (H2 : Hp) (s2 : Shared) (h' : Heap), R a b xs ys H2 → Inv X pins σ H2 s2 → SqL X.K H2 a xs → SqL X.K H2 b ys → Vals xs us → Vals ys vs → xs.length = ys.length → s2.heap.IsList a us.toArray → s2.heap.IsList b vs.toArray →
      IsZipS h' (s2.heap.objs.size + 4) (s2.heap.objs.size + 2) (s2.heap.objs.size + 3) .none → IsPair h' (s2.heap.objs.size + 2) (.ref s2.heap.objs.size) (.ref (s2.heap.objs.size + 1)) →
      IsPair h' (s2.heap.objs.size + 3) .none .none → h'.IsListIter s2.heap.objs.size a 0 → h'.IsListIter (s2.heap.objs.size + 1) b 0 → h'.objs.size = s2.heap.objs.size + 5 →
      (∀ c o, s2.heap.get? c = some o → h'.get? c = some o) → ZipApart (s2.heap.objs.size + 4) (s2.heap.objs.size + 2) (s2.heap.objs.size + 3) s2.heap.objs.size (s2.heap.objs.size + 1) a b → Q (.ref (s2.heap.objs.size + 4)) { s2 with heap := h' }) :
    wpAny (model X.prog X.w) X.A (eval (.Call (.Name "zip" p) [e, e2] kws pos) X.env) Q X.xe s := by
  refine wpAny_Call_Name_kw (ld_blt I hg hm PyProof.Rows.boot_zip ?_)
  refine callTyKw (thn (ha.run pos pins s σ H _ I h) fun us s1 ⟨vs, H1, I1, r1, q1⟩ => thn (hk.run pos pins s1 σ H1 _ I1 q1) fun ws s2 ⟨ks, H2, I2, r2, q2⟩ => ?_) he hpl hall hnone
  rw [hks]
  obtain ⟨a, b, xs, ys, rfl, rfl, hx, hy, hl, q⟩ := q2
  obtain ⟨u1, u2, rfl, ra, rb⟩ := vals2 r1
  obtain ⟨k1, rfl, rk⟩ := vals1 r2
  cases ra
  cases rb
  cases rk
  obtain ⟨uu, rv, p1, _⟩ := I2.list hx
  obtain ⟨vv, rv2, p2, _⟩ := I2.list hy
  have la : a < s2.heap.objs.size := p1.lt
  have lb : b < s2.heap.objs.size := p2.lt
  have nn : ∀ {x : Nat} (k : Nat), x < s2.heap.objs.size → x ≠ s2.heap.objs.size + k := fun {x} k h => by omega
  have n2 : ∀ j k : Nat, j ≠ k → s2.heap.objs.size + j ≠ s2.heap.objs.size + k := fun j k h => by omega
  refine call_zipS p1.isList p2.isList fun h' c1 c2 c3 c4 c5 c6 c7 => hQ a b xs ys uu vv H2 s2 h' q I2 hx hy rv rv2 hl p1.isList p2.isList c1 c2 c3 c4 c5 c6 c7 ?_
  exact ⟨n2 2 4 (by omega), n2 3 4 (by omega), n2 0 4 (by omega), n2 1 4 (by omega), n2 2 3 (by omega), n2 2 0 (by omega), n2 2 1 (by omega), n2 3 0 (by omega), n2 3 1 (by omega), n2 0 1 (by omega),
    nn 4 la, nn 3 la, nn 0 la, nn 1 la, nn 4 lb, nn 3 lb, nn 0 lb, nn 1 lb⟩
def iZipS (K : PySem.W.Frag) (ta tk : TA) : TI := fun σ H R => tZs K ta tk (fun a b xs ys H2 => R (ItzS K a b) H2) σ H
theorem pi_zipS {X : Cx} {e e2 : Expr} {kws : List Keyword} {ta tk : TA} {p pos tpos : Pos} {elts : List Expr} {kk : Nat} (hg : Gl X "zip") (hm : X.mg "zip" = none) (ha : PA X [e, e2] ta) (hk : PK X kws tk)
    (he : backTo pos (starEach [e, e2] X.env) = (false, eval e X.env) :: backTo pos (starEach [e2] X.env) := by rfl) (hpl : (backTo pos (starEach [e, e2] X.env)).any (·.1) = false := by rfl)
    (hall : (backToKw pos (keywordEach kws X.env)).all (·.1.isSome) = true := by rfl) (hnone : (backToKw pos (keywordEach kws X.env)).any (·.1.isNone) = false := by rfl) (hks : (backToKw pos (keywordEach kws X.env)).filterMap (·.1) = [Str.ofString "strict"] := by rfl) :
    PI X (.Tuple elts kk tpos) (.Call (.Name "zip" p) [e, e2] kws pos) (iZipS X.K ta tk) := by
  refine ⟨fun pins s σ H R I h => ?_⟩
  refine zs_eval hg hm ha hk he hpl hall hnone hks I h fun a b xs ys us vs H2 s2 h' q I2 hx hy r1 r2 hl l1 l2 c1 c2 c3 c4 c5 c6 c7 D => iterS (s := { s2 with heap := h' }) c1 ?_
  have I3 : Inv X pins σ H2 { s2 with heap := h' } := I2.kept (t' := s2.toks) c7
  refine ⟨s2.heap.objs.size + 4, [s2.heap.objs.size + 4, s2.heap.objs.size + 2, s2.heap.objs.size + 3, s2.heap.objs.size, s2.heap.objs.size + 1], _, _, H2, rfl, I3, turn_zipS D, ⟨c1, c2, ⟨_, _, c3⟩, c4, c5⟩, fun c hc => ?_, q⟩
  have hle : s2.heap.objs.size ≤ c := by
    rcases (by simpa using hc : c = s2.heap.objs.size + 4 ∨ c = s2.heap.objs.size + 2 ∨ c = s2.heap.objs.size + 3 ∨ c = s2.heap.objs.size ∨ c = s2.heap.objs.size + 1) with rfl | rfl | rfl | rfl | rfl
    · exact Nat.le_add_right _ _
    · exact Nat.le_add_right _ _
    · exact Nat.le_add_right _ _
    · exact Nat.le_refl _
    · exact Nat.le_add_right _ _
  exact I2.fpOk hle (I2.hok.fresh hle)
end K89
set_option Elab.async false
set_option linter.all false
set_option maxRecDepth 100000
set_option maxHeartbeats 1000000
namespace K89
open PySem PySem.Spec PyProof.Rows L2
abbrev ZHeld (h : Heap) (z TI TO T : Addr) (f : Bool) : Prop := h.get? z = some { cls := .type "zip", dict := none, data := .fields #[rawInt T, .bool f, .bool true, .ref TI, .ref TO], slots := #[] }
section
variable {prog : Program} {w : World} {A : Around} {E : Value → Shared → Prop} {s : Shared}
theorem zheld_free {z TI TO T : Addr} {f : Bool} {oT : Obj} {Q : Bool → Shared → Prop} (hz : ZHeld s.heap z TI TO T f) (hT : s.heap.get? T = some oT)
    (h : ∀ h', ZHeld h' z TI TO T true → Heap.SameBut z s.heap h' → Q false { s with heap := h' }) : wpAny (model prog w) A (Builtin.SmallTypes.ownedTupleIsFree (.ref z)) Q E s := by
  unfold Builtin.SmallTypes.ownedTupleIsFree
  refine wpAny_bind (wpAny_field hz rfl (x := rawInt T) rfl ?_)
  show wpAny _ _ (loadIfAlive ((T : Int).toNat) >>= _) _ _ _
  rw [Int.toNat_natCast]
  refine wpAny_bind (PySem.W.kdx_alive hT ?_)
  simp only [Option.isNone_some, Bool.false_eq_true, if_false]
  refine wpAny_bind (wpAny_field hz rfl (x := .bool f) rfl ?_)
  cases f
  · rw [if_pos (show (Value.bool false != Value.bool true) = true from rfl)]
    exact wpAny_bind (wpAny_setField_rec hz (by simp) fun m z' b => wpAny_pure (h m z' b))
  · rw [if_neg (show ¬ ((Value.bool true != Value.bool true) = true) from Bool.false_ne_true)]
    exact wpAny_pure (h s.heap hz (Heap.SameBut.refl _ _))
theorem zheld_item {z TI TO T i1 i2 l1 l2 : Addr} {f : Bool} {oT : Obj} {k1 k2 : Nat} {xs ys : Array Value} {x y : Value} {Q : Option Value → Shared → Prop} (D : ZipApart z TI TO i1 i2 l1 l2)
    (hz : ZHeld s.heap z TI TO T f) (hT : s.heap.get? T = some oT) (hTI : IsPair s.heap TI (.ref i1) (.ref i2))
    (h1 : s.heap.IsListIter i1 l1 k1) (h2 : s.heap.IsListIter i2 l2 k2) (hl1 : s.heap.IsList l1 xs) (hl2 : s.heap.IsList l2 ys) (hx : xs[k1]? = some x) (hy : ys[k2]? = some y)
    (hQ : ∀ h', ZHeld h' z TI TO T true → h'.IsListIter i1 l1 (k1 + 1) → h'.IsListIter i2 l2 (k2 + 1) → IsPair h' s.heap.objs.size x y →
      (∀ c o, c ≠ z → c ≠ i1 → c ≠ i2 → s.heap.get? c = some o → h'.get? c = some o) → Q (some (.ref s.heap.objs.size)) { s with heap := h' }) :
    wpAny (model prog w) A (pyNext (.ref z)) Q E s := by
  have ty : s.TypeIs (.ref z) "zip" := ⟨_, hz, rfl⟩
  unfold pyNext
  refine wpAny_bind (wpAny_attempt (wpAny_callSpecial?_slot (name := Str.ofString "__next__") ty F.slot_zip_next (wpAny_call_entry F.slot_zip_next ty F.entry_zip_next ?_ (F.args_zip_next_1 _))))
  show wpAny _ _ (field (.ref z) 2 >>= _) _ _ _
  refine wpAny_bind (wpAny_field hz rfl (x := .bool true) rfl ?_)
  show wpAny _ _ (field (.ref z) 3 >>= _) _ _ _
  refine wpAny_bind (wpAny_field hz rfl (x := .ref TI) rfl (wpAny_bind (wpAny_seqItems hTI rfl ?_)))
  show wpAny _ _ (Builtin.SmallTypes.ownedTupleIsFree (.ref z) >>= _) _ _ _
  refine wpAny_bind (zheld_free hz hT fun m1 z1 b1 => ?_)
  simp only [Bool.false_eq_true, if_false]
  refine wpAny_bind ?_
  rw [← Array.forIn_toList]
  simp only [List.forIn_cons, List.forIn_nil]
  refine wpAny_bind (wpAny_bind (wpAny_holding ?_))
  show wpAny _ _ (Builtin.SmallTypes.nextOrEnd (.ref i1)) _ _ _
  refine orEnd_item (s := { s with heap := m1 }) (h1.extBut b1.extBut D.i1z) (hl1.extBut b1.extBut D.l1z) hx fun m2 t2 b2 => ?_
  refine wpAny_pure (wpAny_bind (wpAny_bind (wpAny_holding ?_)))
  show wpAny _ _ (Builtin.SmallTypes.nextOrEnd (.ref i2)) _ _ _
  refine orEnd_item (s := { s with heap := m2 }) ((h2.extBut b1.extBut D.i2z).extBut b2.extBut D.i12.symm) ((hl2.extBut b1.extBut D.l2z).extBut b2.extBut D.l2i1) hy fun m3 t3 b3 => ?_
  refine wpAny_pure (wpAny_pure ?_)
  show wpAny _ _ (newTuple [x, y] >>= _) _ _ _
  refine wpAny_bind (wpAny_newTuple (wpAny_pure ⟨_, rfl, wpAny_pure ?_⟩))
  have sz : m3.objs.size = s.heap.objs.size := by rw [b3.1, b2.1, b1.1]
  have z3 : ZHeld m3 z TI TO T true := b3.extBut _ _ D.i2z.symm (b2.extBut _ _ D.i1z.symm z1)
  have t23 : m3.IsListIter i1 l1 (k1 + 1) := t2.extBut b3.extBut D.i12
  have new : IsPair (m3.push { cls := .type "tuple", data := .seq #[x, y] }) m3.objs.size x y := Heap.get?_push_size _ rfl
  show Q (some (.ref m3.objs.size)) _
  rw [sz] at new ⊢
  exact hQ _ (Heap.get?_push_of_some _ z3) (t23.at fun o e => Heap.get?_push_of_some _ e) (t3.at fun o e => Heap.get?_push_of_some _ e) new fun c o n1 n2 n3 e => Heap.get?_push_of_some _ (b3.extBut _ _ n3 (b2.extBut _ _ n2 (b1.extBut _ _ n1 e)))
theorem zheld_end {z TI TO T i1 i2 l1 l2 : Addr} {f : Bool} {oT : Obj} {k1 k2 : Nat} {xs ys : Array Value} {Q : Option Value → Shared → Prop} (hh : A.handled = none) (D : ZipApart z TI TO i1 i2 l1 l2)
    (hz : ZHeld s.heap z TI TO T f) (hT : s.heap.get? T = some oT) (hTI : IsPair s.heap TI (.ref i1) (.ref i2))
    (h1 : s.heap.IsListIter i1 l1 k1) (h2 : s.heap.IsListIter i2 l2 k2) (hl1 : s.heap.IsList l1 xs) (hl2 : s.heap.IsList l2 ys) (hx : xs[k1]? = none) (hy : ys[k2]? = none)
    (hQ : ∀ h', (∀ c o, c ≠ z → c ≠ i1 → c ≠ i2 → s.heap.get? c = some o → h'.get? c = some o) → Q none { s with heap := h' }) :
    wpAny (model prog w) A (pyNext (.ref z)) Q E s := by
  have ty : s.TypeIs (.ref z) "zip" := ⟨_, hz, rfl⟩
  unfold pyNext
  refine wpAny_bind (wpAny_attempt (wpAny_callSpecial?_slot (name := Str.ofString "__next__") ty F.slot_zip_next (wpAny_call_entry F.slot_zip_next ty F.entry_zip_next ?_ (F.args_zip_next_1 _))))
  show wpAny _ _ (field (.ref z) 2 >>= _) _ _ _
  refine wpAny_bind (wpAny_field hz rfl (x := .bool true) rfl ?_)
  show wpAny _ _ (field (.ref z) 3 >>= _) _ _ _
  refine wpAny_bind (wpAny_field hz rfl (x := .ref TI) rfl (wpAny_bind (wpAny_seqItems hTI rfl ?_)))
  show wpAny _ _ (Builtin.SmallTypes.ownedTupleIsFree (.ref z) >>= _) _ _ _
  refine wpAny_bind (zheld_free hz hT fun m1 z1 b1 => ?_)
  simp only [Bool.false_eq_true, if_false]
  refine wpAny_bind ?_
  rw [← Array.forIn_toList]
  simp only [List.forIn_cons, List.forIn_nil]
  refine wpAny_bind (wpAny_bind (wpAny_holding ?_))
  show wpAny _ _ (Builtin.SmallTypes.nextOrEnd (.ref i1)) _ _ _
  refine orEnd_end (s := { s with heap := m1 }) hh (h1.extBut b1.extBut D.i1z) (hl1.extBut b1.extBut D.l1z) hx fun m2 b2 => ?_
  refine wpAny_bind ?_
  show wpAny _ _ (forIn [(Value.ref i2, 1)] PUnit.unit _ >>= _) _ _ _
  refine wpAny_bind ?_
  simp only [List.forIn_cons, List.forIn_nil]
  refine wpAny_bind (wpAny_bind ?_)
  refine orEnd_end (s := { s with heap := m2 }) hh ((h2.extBut b1.extBut D.i2z).at fun o e => b2 _ o D.i12.symm e) ((hl2.extBut b1.extBut D.l2z).at fun o e => b2 _ o D.l2i1 e) hy fun m4 b4 => ?_
  refine wpAny_pure (wpAny_pure (wpAny_bind (wpAny_rule ?_)))
  show wpAny _ _ (newExc (.type "StopIteration") [] >>= _) _ _ _
  refine wpAny_bind ?_
  simp only [newExc, newTuple]
  refine wpAny_bind (wpAny_newObj_type ?_ (by size_fits))
  refine wpAny_bind (m := firstArgMember _ _) (wpAny_of_eq (a := Value.none) (by first | rfl | (simp only [firstArgMember]; rfl)) ?_)
  refine wpAny_newObj_type ?_ (by size_fits)
  simp only [raiseNew]
  refine wpAny_bind (wpAny_handled ?_)
  rw [show A.in1.handled = none from hh]
  refine wpAny_throw ?_
  refine wpAny_bind (wpAny_isInstance (T := "StopIteration") (b := true) ⟨_, Heap.get?_push_size _ rfl, rfl⟩ isSubtype_stop ?_)
  exact wpAny_pure (hQ _ fun c o n1 n2 n3 e => Heap.get?_push_of_some _ (Heap.get?_push_of_some _ (b4 _ _ n3 (b2 _ _ n2 (b1.extBut _ _ n1 e)))))
end
section
variable {prog : Program} {w : World}
theorem argZipS (z TI TO i1 i2 l1 l2 : Addr) (D : ZipApart z TI TO i1 i2 l1 l2) (xs ys : Array Value) (n : Nat) (hx : xs.size = n) (hy : ys.size = n) :
    PairArg prog w "zip" z [z, TI, TO, i1, i2, l1, l2] [z, TO, i1, i2] n (fun i k v => xs[i]? = some k ∧ ys[i]? = some v)
      (fun h => IsZipS h z TI TO .none ∧ IsPair h TI (.ref i1) (.ref i2) ∧ (∃ a b, IsPair h TO a b) ∧ h.IsListIter i1 l1 0 ∧ h.IsListIter i2 l2 0 ∧ h.IsList l1 xs ∧ h.IsList l2 ys) where
  type := fun s ok => ⟨_, ok.1, rfl⟩
  notDict := by decide
  keep := fun h h' ok hk => by
    obtain ⟨c1, c2, ⟨a, b, c3⟩, c4, c5, c6, c7⟩ := ok
    exact ⟨hk _ _ c1, hk _ _ c2, ⟨a, b, hk _ _ c3⟩, c4.at fun o e => hk _ o e, c5.at fun o e => hk _ o e, c6.at fun o e => hk _ o e, c7.at fun o e => hk _ o e⟩
  there := fun h ok b hb => by
    obtain ⟨c1, c2, ⟨a, c, c3⟩, ⟨o1, c4, _⟩, ⟨o2, c5, _⟩, ⟨o3, c6, _⟩, ⟨o4, c7, _⟩⟩ := ok
    simp only [List.mem_cons, List.not_mem_nil, or_false] at hb
    rcases hb with rfl | rfl | rfl | rfl | rfl | rfl | rfl
    · exact ⟨_, c1⟩
    · exact ⟨_, c2⟩
    · exact ⟨_, c3⟩
    · exact ⟨_, c4⟩
    · exact ⟨_, c5⟩
    · exact ⟨_, c6⟩
    · exact ⟨_, c7⟩
  sub := fun b hb => by
    simp only [List.mem_cons, List.not_mem_nil, or_false] at hb ⊢
    rcases hb with r | r | r | r <;> simp [r]
  noKeys := fun A s Q E hA ok h => getAttrOr_miss_zip ok.1 rfl rfl rfl zip_no_keys (by decide +kernel) hA h
  iter := fun A s d Q E hA ok hd hdf h => by
    obtain ⟨c1, c2, ⟨a, b, c3⟩, c4, c5, c6, c7⟩ := ok
    simp only [List.mem_cons, List.not_mem_nil, or_false, not_or] at hdf
    obtain ⟨dz, dTI, dTO, di1, di2, dl1, dl2⟩ := hdf
    refine iterS c1 (h z [z, TO, i1, i2] (fun i h => IsPair h TI (.ref i1) (.ref i2) ∧ h.IsListIter i1 l1 i ∧ h.IsListIter i2 l2 i ∧ h.IsList l1 xs ∧ h.IsList l2 ys ∧
      ((IsZipS h z TI TO .none ∧ ∃ a b, IsPair h TO a b) ∨ ∃ T f oT, ZHeld h z TI TO T f ∧ h.get? T = some oT ∧ T ≠ z ∧ T ≠ i1 ∧ T ≠ i2 ∧ T ≠ d)) s.heap s.toks ?_
      ⟨c2, c4, c5, c6, c7, .inl ⟨c1, a, b, c3⟩⟩ (fun _ _ e => e) fun b hb => .inl hb)
    refine ⟨?_, ?_, ?_, ?_⟩
    · intro hm
      simp only [List.mem_cons, List.not_mem_nil, or_false] at hm
      rcases hm with e | e | e | e
      · exact dz e
      · exact dTO e
      · exact di1 e
      · exact di2 e
    · rintro i m m' ⟨s1, s2, s3, s4, s5, s6⟩ hk
      refine ⟨hk _ _ (Ne.symm dTI) s1, s2.at fun o e => hk _ o (Ne.symm di1) e, s3.at fun o e => hk _ o (Ne.symm di2) e, s4.at fun o e => hk _ o (Ne.symm dl1) e, s5.at fun o e => hk _ o (Ne.symm dl2) e, ?_⟩
      rcases s6 with ⟨z1, a, b, z2⟩ | ⟨T, f, oT, z1, z2, r1, r2, r3, r4⟩
      · exact .inl ⟨hk _ _ (Ne.symm dz) z1, a, b, hk _ _ (Ne.symm dTO) z2⟩
      · exact .inr ⟨T, f, oT, hk _ _ (Ne.symm dz) z1, hk _ _ r4 z2, r1, r2, r3, r4⟩
    · rintro i s₁ Q₁ E₁ hi ⟨s1, s2, s3, s4, s5, s6⟩ hds hQ
      have ex := Array.getElem?_eq_getElem (show i < xs.size by omega)
      have ey := Array.getElem?_eq_getElem (show i < ys.size by omega)
      have lt : ∀ {c o}, s₁.heap.get? c = some o → s₁.heap.objs.size ≠ c := fun e => Nat.ne_of_gt (Heap.lt_size e)
      have n1 : s₁.heap.objs.size ≠ i1 := let ⟨_, e, _⟩ := s2; lt e
      have n2 : s₁.heap.objs.size ≠ i2 := let ⟨_, e, _⟩ := s3; lt e
      rcases s6 with ⟨z1, a, b, z2⟩ | ⟨T, f, oT, z1, z2, r1, r2, r3, r4⟩
      · refine nextS_item D z1 s1 z2 s2 s3 s4 s5 ex ey fun h' a1 a2 a3 a4 a5 a6 hk => ?_
        refine hQ s₁.heap.objs.size _ _ h' s₁.toks ⟨ex, ey⟩ (.inl ⟨_, a5, rfl, _, rfl⟩)
          ⟨hk _ _ D.TIz D.TITO D.TIi1 D.TIi2 s1, a3, a4, s4.at fun o e => hk _ o D.l1z D.l1TO D.l1i1 D.l1i2 e, s5.at fun o e => hk _ o D.l2z D.l2TO D.l2i1 D.l2i2 e,
            .inr ⟨s₁.heap.objs.size, false, _, a1, a5, lt z1, n1, n2, Nat.ne_of_gt hds⟩⟩ fun c o hc e => ?_
        simp only [List.mem_cons, List.not_mem_nil, or_false, not_or] at hc
        exact hk c o hc.1 hc.2.1 hc.2.2.1 hc.2.2.2 e
      · refine zheld_item D z1 z2 s1 s2 s3 s4 s5 ex ey fun h' a1 a3 a4 a5 hk => ?_
        refine hQ s₁.heap.objs.size _ _ h' s₁.toks ⟨ex, ey⟩ (.inl ⟨_, a5, rfl, _, rfl⟩)
          ⟨hk _ _ D.TIz D.TIi1 D.TIi2 s1, a3, a4, s4.at fun o e => hk _ o D.l1z D.l1i1 D.l1i2 e, s5.at fun o e => hk _ o D.l2z D.l2i1 D.l2i2 e,
            .inr ⟨T, true, oT, a1, hk _ _ r1 r2 r3 z2, r1, r2, r3, r4⟩⟩ fun c o hc e => ?_
        simp only [List.mem_cons, List.not_mem_nil, or_false, not_or] at hc
        exact hk c o hc.1 hc.2.2.1 hc.2.2.2 e
    · rintro s₁ Q₁ E₁ ⟨s1, s2, s3, s4, s5, s6⟩ hQ
      have ex : xs[n]? = none := Array.getElem?_eq_none (by omega)
      have ey : ys[n]? = none := Array.getElem?_eq_none (by omega)
      rcases s6 with ⟨z1, a, b, z2⟩ | ⟨T, f, oT, z1, z2, r1, r2, r3, r4⟩
      · refine nextS_end hA D z1 s1 z2 s2 s3 s4 s5 ex ey fun h' hk => hQ h' s₁.toks fun c o hc e => ?_
        simp only [List.mem_cons, List.not_mem_nil, or_false, not_or] at hc
        exact hk c o hc.1 hc.2.1 hc.2.2.1 hc.2.2.2 e
      · refine zheld_end hA D z1 z2 s1 s2 s3 s4 s5 ex ey fun h' hk => hQ h' s₁.toks fun c o hc e => ?_
        simp only [List.mem_cons, List.not_mem_nil, or_false, not_or] at hc
        exact hk c o hc.1 hc.2.2.1 hc.2.2.2 e
end
end K89
set_option Elab.async false
set_option linter.all false
set_option maxRecDepth 100000
set_option maxHeartbeats 1000000
namespace K89
open PySem PySem.Spec PyProof.Rows L2
def zipK {β : Type} (ks : List Int) (ys : List β) : List (Key × β) := (ks.zip ys).map fun q => (Sum.inl q.1, q.2)
theorem zipK_kv : ∀ {ks : List Int} {ys : List V} {us : List Value}, Vals ys us → KV (zipK ks ys) (zipK ks us)
  | [], _, _, _ => .nil
  | _ :: _, _, _, .nil => .nil
  | _ :: _, _, _, .cons r t => .cons ⟨rfl, r⟩ (zipK_kv t)
theorem zipK_at {β : Type} {ks : List Int} {ys : List β} {i : Nat} {k : Int} {y : β} (h1 : ks[i]? = some k) (h2 : ys[i]? = some y) : (zipK ks ys)[i]? = some (Sum.inl k, y) := by
  unfold zipK
  have e : (ks.zip ys)[i]? = some (k, y) := List.getElem?_zip_eq_some.mpr ⟨h1, h2⟩
  rw [List.getElem?_map, e]
  rfl
def tDictZipS (K : PySem.W.Frag) (ta tk : TA) : TE := fun σ H Q => tZs K ta tk (fun a b xs ys H2 => ∃ ks : List Int, xs = ks.map V.int ∧ ∀ p, H2 p = none → Q (.ref p) (upd H2 p (.dK (mergeK [] (zipK ks ys))))) σ H
theorem pe_dictZipS {X : Cx} {e e2 : Expr} {kws : List Keyword} {ta tk : TA} {p pos pd posd : Pos} (hcalm : X.calm = true) (hgd : Gl X "dict") (hmd : X.mg "dict" = none) (hg : Gl X "zip") (hm : X.mg "zip" = none) (ha : PA X [e, e2] ta) (hk : PK X kws tk)
    (hs : starEach [.Call (.Name "zip" p) [e, e2] kws pos] X.env = [(false, eval (.Call (.Name "zip" p) [e, e2] kws pos) X.env)] := by rfl)
    (he : backTo pos (starEach [e, e2] X.env) = (false, eval e X.env) :: backTo pos (starEach [e2] X.env) := by rfl) (hpl : (backTo pos (starEach [e, e2] X.env)).any (·.1) = false := by rfl)
    (hall : (backToKw pos (keywordEach kws X.env)).all (·.1.isSome) = true := by rfl) (hnone : (backToKw pos (keywordEach kws X.env)).any (·.1.isNone) = false := by rfl) (hks : (backToKw pos (keywordEach kws X.env)).filterMap (·.1) = [Str.ofString "strict"] := by rfl) :
    PE X (.Call (.Name "dict" pd) [.Call (.Name "zip" p) [e, e2] kws pos] [] posd) (tDictZipS X.K ta tk) := by
  refine ⟨fun pins s σ H Q I h => ?_⟩
  have hb : bootBuiltins ("dict" : Str) = some (.type "dict") := by decide +kernel
  refine Call_ (ld_blt I hgd hmd hb (PyProof.Rows.callWith_type1 ?_ hs rfl))
  have one : ∀ {Q' : List Value → Shared → Prop} {s' : Shared}, wpAny (model X.prog X.w) X.A (eval (.Call (.Name "zip" p) [e, e2] kws pos) X.env) (fun v s1 => Q' [v] s1) X.xe s' →
      wpAny (model X.prog X.w) X.A (spliced (backTo posd (starEach [.Call (.Name "zip" p) [e, e2] kws pos] X.env))) Q' X.xe s' := fun h => by
    rw [hs]
    exact Calls.spliced_cons (thn h fun _ _ q => Calls.spliced_nil q)
  refine one ?_
  refine zs_eval hg hm ha hk he hpl hall hnone hks I h fun a b xs ys us vs H2 s2 h' q I2 hx hy r1 r2 hl l1 l2 c1 c2 c3 c4 c5 c6 c7 D => ?_
  obtain ⟨ks, rfl, q⟩ := q
  have e1 := r1.length
  have e2 := r2.length
  rw [List.length_map] at e1 hl
  have P := argZipS (prog := X.prog) (w := X.w) _ _ _ _ _ _ _ D us.toArray vs.toArray ks.length (by rw [List.size_toArray]; omega) (by rw [List.size_toArray]; omega)
  have keepL : ∀ {c : Addr} {its : Array Value}, s2.heap.IsList c its → h'.IsList c its := fun x => x.at fun o e => c7 _ o e
  have hm2 : (h'.objs.size == sysModules) = false := beq_eq_false_iff_ne.mpr (Nat.ne_of_gt (Nat.lt_of_lt_of_le I2.big (by omega)))
  have hz : ks.length ≤ sizeLine := by
    obtain ⟨_, _, _, z⟩ := I2.list hx
    rw [List.length_map] at z
    exact z
  refine call_dict_pairs (s := { s2 with heap := h' }) (knd := mixKind X.prog X.w) (kvs := zipK ks vs) P (I.ok.hd hcalm) ⟨c1, c2, ⟨_, _, c3⟩, c4, c5, keepL l1, keepL l2⟩ ⟨?_, fun i key v hr => ?_⟩ hz fun h2 tk hd k => ?_
  · unfold zipK
    rw [List.length_map, List.length_zip]
    omega
  · obtain ⟨h1, h2⟩ := hr
    have h1' : us[i]? = some key := by simpa using h1
    have h2' : vs[i]? = some v := by simpa using h2
    have li : i < ks.length := by have := (List.getElem?_eq_some_iff.mp h1').1; omega
    obtain ⟨u, eu, ru⟩ := r1.get (i := i) (x := .int ks[i]) (by simp [li])
    rw [h1'] at eu
    cases eu
    exact ⟨.inl ks[i], zipK_at (by simp [li]) h2', kV_is ru⟩
  · have fresh : ∀ b o, s2.heap.get? b = some o → b ∉ [s2.heap.objs.size + 4, s2.heap.objs.size + 3, s2.heap.objs.size, s2.heap.objs.size + 1] := fun b o e hb => by
      have := Heap.lt_size e
      simp only [List.mem_cons, List.not_mem_nil, or_false] at hb
      rcases hb with r | r | r | r <;> (rw [r] at this; exact absurd this (Nat.not_lt.mpr (by first | exact Nat.le_refl _ | exact Nat.le_add_right _ _)))
    have keep : ∀ b o, s2.heap.get? b = some o → h2.get? b = some o := fun b o e => k b o (fresh b o e) (c7 b o e)
    have hlen : (mergeK [] (zipK ks ys)).length ≤ sizeLine := by
      refine Nat.le_trans (length_mergeK _ []) ?_
      unfold zipK
      rw [List.length_nil, Nat.zero_add, List.length_map, List.length_zip]
      omega
    have I3 : Inv X pins σ (upd H2 h'.objs.size (.dK (mergeK [] (zipK ks ys)))) { s2 with heap := h2, toks := tk } :=
      I2.laid (t' := tk) keep (by omega) (show ObjOk X.prog X.w _ _ _ (.dK _) from ⟨hlen, hm2, merged [] (zipK ks vs), KV.merge (zipK_kv r2) .nil, hd⟩)
    exact ⟨.ref h'.objs.size, _, I3, rfl, q _ (I2.hok.fresh (by omega))⟩
end K89
set_option Elab.async false
set_option linter.all false
set_option maxRecDepth 100000
set_option maxHeartbeats 1000000
namespace K89
open PySem PySem.Spec PyProof.Rows L2

/-! ### the dict of «repeats»: None: False, and the ints of S: True; at most m entries -/
def SeenAt (P : Program) (w : World) (a : Addr) (S : Int → Bool) (m : Nat) (h : Heap) : Prop := (a == sysModules) = false ∧ ∃ vs : List (Leaf × Value), vs.length ≤ m ∧ valueAt vs .none = some (.bool false) ∧
  (∀ i, valueAt vs (.num i) = if S i = true then some (.bool true) else none) ∧ h.DictOf (leafKind P w) a vs
def SeenO (P : Program) (w : World) (a : Addr) (S : Int → Bool) (m : Nat) : HO := .ext (SeenAt P w a S m)
theorem leafInt (P : Program) (w : World) (i : Int) (t : Tok) : (leafKind P w).is (.num i) (.int i t) = true := decide_eq_true rfl
theorem leafNone (P : Program) (w : World) : (leafKind P w).is .none .none = true := rfl
theorem dictOf_at {P : Program} {w : World} {h h' : Heap} {a : Addr} {vs : List (Leaf × Value)} (d : h.DictOf (leafKind P w) a vs) (k : ∀ o, h.get? a = some o → h'.get? a = some o) : h'.DictOf (leafKind P w) a vs := by
  obtain ⟨o, es, ep, e, r⟩ := d
  exact ⟨o, es, ep, k o e, r⟩
theorem seen_new {P : Program} {w : World} {H : Hp} {h : Heap} {a : Addr} {S : Int → Bool} {m : Nat} (x : SeenAt P w a S m h) : ObjOk P w H h a (SeenO P w a S m) := by
  refine ⟨x, ?_, ?_⟩
  · obtain ⟨_, vs, _, _, _, o, _, _, e, _⟩ := x
    exact ⟨o, e⟩
  · rintro h1 h2 ⟨y0, vs, y1, y2, y3, y4⟩ k
    exact ⟨y0, vs, y1, y2, y3, dictOf_at y4 k⟩
theorem seen_at {X : Cx} {pins : List (Addr × Obj)} {σ : L2.St} {H : Hp} {s : Shared} {a : Addr} {S : Int → Bool} {m : Nat} (I : Inv X pins σ H s) (e : H a = some (SeenO X.prog X.w a S m)) : SeenAt X.prog X.w a S m s.heap := (I.hok a _ e).1
section
variable {X : Cx} {pos pos' cpos apos : Pos} {o e f value : Expr} {td ty tx tv : TE}
theorem pe_seenNew {j1 j2 : Nat} {p1 p2 : Pos} : PE X (.Dict [some (.Constant .none j1 p1)] [.Constant (.bool false) j2 p2] pos) (fun _ H Q => ∀ p, H p = none → Q (.ref p) (upd H p (SeenO X.prog X.w p (fun _ => false) 1))) := by
  refine ⟨fun pins s σ H Q I q => ?_⟩
  have hn := I.hok.fresh (Nat.le_refl s.heap.objs.size)
  have hd : (s.heap.objs.size == sysModules) = false := beq_eq_false_iff_ne.mpr (Ne.symm (Nat.ne_of_lt I.big))
  refine wpAny_Dict_walk (knd := leafKind X.prog X.w) rfl rfl (by simp) (by show 1 ≤ 15; decide) ?_
  refine pairTrees_cons_walk (Constant_none (Constant_bool (pairTrees_nil_walk ?_)))
  refine ⟨[(.none, .bool false)], ⟨leafNone _ _, rfl, True.intro⟩, Heap.DictOf.new s.heap, fun h' dd hs => ⟨.ref s.heap.objs.size, _, I.laid (t' := _) (fun b u z => ?_) (Nat.le_refl _) (seen_new ⟨hd, _, ?_, ?_, fun i => ?_, dd⟩), rfl, q _ hn⟩⟩
  · exact (hs.2 b (Nat.ne_of_lt (Heap.lt_size z))).trans (Heap.get?_push_of_some _ z)
  · decide
  · decide
  · simp [merged, stored, valueAt]
theorem pe_seenGet {S : V → Bool} (ho : PE X o td) (he : PE X e ty) (hf : PE X f tx) (m : M2 X o "get" apos e f cpos) :
    PE X (.Call (.Attribute o "get" apos) [e, f] [] cpos) (fun σ H Q => td σ H fun x H1 => ∃ a S n, x = .ref a ∧ H1 a = some (SeenO X.prog X.w a S n) ∧ ty σ H1 fun y H2 => tx σ H2 fun z H3 => z = .bl false ∧ H3 a = some (SeenO X.prog X.w a S n) ∧
      ((y = .non ∧ Q (.bl false) H3) ∨ ∃ i, y = .int i ∧ Q (.bl (S i)) H3)) := by
  refine ⟨fun pins s σ H Q I h => ?_⟩
  refine wpAny_Call_method m.base m.few m.line PySem.F.plainAttrs_dict PySem.F.slot_dict_get PySem.F.type_dict_get (thn (ho.run pins s σ H _ I h) fun u s1 ⟨x, H1, I1, rx, a, S, n, ex, ea, q1⟩ => ?_)
  subst ex
  obtain rfl : u = Value.ref a := rx
  obtain ⟨hd, vs, _, _, _, dd⟩ := seen_at I1 ea
  obtain ⟨oo, es, ep, g1, g2, _⟩ := id dd
  refine ⟨dd.typeIs, fun b q => ?_, ?_⟩
  · cases q
    exact ⟨oo, g1, g2.2.1⟩
  rw [m.trees]
  refine Calls.callWith_builtin rfl (Calls.evalArgs_plain (Calls.spliced_cons (thn (he.run pins s1 σ H1 _ I1 q1) fun iv s2 ⟨y, H2, I2, ry, q2⟩ =>
    Calls.spliced_cons (thn (hf.run pins s2 σ H2 _ I2 q2) fun fv s3 ⟨z, H3, I3, rz, ez, ea3, q3⟩ => Calls.spliced_nil ?_))))
  subst ez
  cases rz
  obtain ⟨hd3, ws, _, w1, w2, dd3⟩ := seen_at I3 ea3
  rcases q3 with ⟨ey, q⟩ | ⟨i, ey, q⟩
  · subst ey
    cases ry
    refine call_meetsIn PySem.F.slot_dict_get dd3.typeIs PySem.F.entry_dict_get (PySem.F.args_dict_get_3 _ _ _) (meets_dict_get_default (leafKind X.prog X.w) a (leafNone _ _) hd3 (.bool false)) ⟨_, dd3.mapOf, ?_⟩
    rw [w1]
    exact ⟨.bl false, H3, I3.tok _, rfl, q⟩
  · subst ey
    obtain ⟨t, rfl⟩ := ry
    refine call_meetsIn PySem.F.slot_dict_get dd3.typeIs PySem.F.entry_dict_get (PySem.F.args_dict_get_3 _ _ _) (meets_dict_get_default (leafKind X.prog X.w) a (leafInt _ _ i t) hd3 (.bool false)) ⟨_, dd3.mapOf, ?_⟩
    rw [w2 i]
    cases hS : S i
    · rw [hS] at q
      exact ⟨.bl false, H3, I3.tok _, rfl, q⟩
    · rw [hS] at q
      exact ⟨.bl true, H3, I3.tok _, rfl, q⟩
theorem ps_seenPut {i : Expr} (ho : PE X o td) (hi : PE X i ty) (hv : PE X value tv) (hs : swapsWith value (some (.Subscript o i pos')) pos.line X.env = pure false := by rfl) :
    PS X (.Assign [.Subscript o i pos'] value pos) (fun D σ H => tv σ H fun v H1 => td σ H1 fun x H2 => ty σ H2 fun y H3 => ∃ a S n k, v = .bl true ∧ x = .ref a ∧ y = .int k ∧ H3 a = some (SeenO X.prog X.w a S n) ∧ n < sizeLine ∧
      D.nx σ (upd H3 a (SeenO X.prog X.w a (fun j => S j || decide (j = k)) (n + 1)))) := by
  refine ⟨fun pins s σ H D I h => ?_⟩
  refine wpAny_Assign_Subscript (thn (hv.run pins s σ H _ I h) fun r s1 ⟨v, H1, I1, rv, q1⟩ => thn (ho.run pins s1 σ H1 _ I1 q1) fun u s2 ⟨x, H2, I2, rx, q2⟩ => thn (hi.run pins s2 σ H2 _ I2 q2) fun iv s3 ⟨y, H3, I3, ry, a, S, n, k, ev, ex, ey, ea, hn, q3⟩ => ?_) hs
  subst ev ex ey
  cases rv
  cases rx
  obtain ⟨t, rfl⟩ := ry
  obtain ⟨hd, vs, hl, w1, w2, dd⟩ := seen_at I3 ea
  refine wpAny_setItem_pairs (hsz := by omega) (leafInt _ _ k t) dd fun h' dd' hs => ⟨σ, _, ?_, q3⟩
  have he : ∃ q, h'.get? a = some q := let ⟨q, _, _, hq, _⟩ := dd'; ⟨q, hq⟩
  refine d_write I3 (by rw [ea]; exact True.intro) hs he (seen_new ⟨hd, _, ?_, ?_, fun j => ?_, dd'⟩)
  · have := PySem.length_stored vs (.num k) (.bool true)
    split at this <;> omega
  · rw [valueAt_stored_other _ _ _ (by simp)]
    exact w1
  · by_cases ej : j = k
    · subst ej
      rw [valueAt_stored_same]
      simp
    · rw [valueAt_stored_other _ _ _ (by intro q; exact ej (by injection q)), w2 j]
      simp [ej]
end
end K89
set_option Elab.async false
set_option linter.all false
set_option maxRecDepth 100000
set_option maxHeartbeats 1000000
namespace K89
open PySem PySem.Spec PyProof.Rows L2 GenW

/-! ### a generator drawn by a for whose turns change nothing but the frame at L, where the name «_law_last» holds what came last -/
def lastD (q : Int) (ys : List Int) : Int := ys.getLast?.getD q
theorem lastD_snoc {q k : Int} {ys : List Int} : lastD q (ys ++ [k]) = k := by simp [lastD]
def LastAt (L : Addr) (i : Int) (h : Heap) : Prop := ∃ m tk, h.Ns L m ∧ m "_law_last" = some (.int i tk)
/-- but for the object at L (and nothing new) t is s -/
structure Sim (L : Addr) (s t : Shared) : Prop where
  os : t.os = s.os
  sz : t.heap.objs.size = s.heap.objs.size
  off : ∀ b, b ≠ L → t.heap.get? b = s.heap.get? b
structure Slp (L : Addr) (k : Int) (s s' : Shared) : Prop where
  os : s'.os = s.os
  bare : AllBare s'.gens
  keep : ∀ b o, b ≠ L → s.heap.get? b = some o → s'.heap.get? b = some o
  last : LastAt L k s'.heap
theorem ns_obj {L : Addr} {m : Str → Option Value} {h h' : Heap} (n : h.Ns L m) (e : ∀ o, h.get? L = some o → ∃ sl, h'.get? L = some { o with slots := sl }) : h'.Ns L m := by
  obtain ⟨o, es, ep, ho, r⟩ := n
  obtain ⟨sl, h1⟩ := e o ho
  exact ⟨_, es, ep, h1, r⟩
theorem last_obj {L : Addr} {i : Int} {h h' : Heap} (n : LastAt L i h) (e : ∀ o, h.get? L = some o → ∃ sl, h'.get? L = some { o with slots := sl }) : LastAt L i h' := by
  obtain ⟨m, tk, n1, n2⟩ := n
  exact ⟨m, tk, ns_obj n1 e, n2⟩

abbrev Cx.from (X : Cx) (t : Shared) : Cx := { X with s_0 := t }
/-- running: ys is out, what came last stands in the frame at L; t: the entry as it would have been with that frame -/
def GI (X : Cx) (L : Addr) (q : Int) (ys : List Int) (σ : L2.St) (H : Hp) (s : Shared) : Prop :=
  ∃ t, Inv (Cx.from X t) [] σ H s ∧ Sim L X.s_0 t ∧ LastAt L (lastD q ys) t.heap
/-- what must hold of the place: L is a frame of the callers', none of ours -/
structure Far (X : Cx) (L : Addr) : Prop where
  mem : L ∈ X.fs
  loc : X.env.locals ≠ L
  ex : X.ex = []
  pn : ∀ p ∈ X.pn, p.1 ≠ L

theorem sim_obj {L : Addr} {s : Shared} (o : Obj) (hL : ∃ o0, s.heap.get? L = some o0) (hf : o.isFreed = false) : ∃ t, Sim L s t ∧ t.heap.get? L = some o ∧ t.gens = s.gens := by
  obtain ⟨o0, e⟩ := hL
  refine ⟨{ s with heap := s.heap.update L (fun _ => o) }, ⟨rfl, (Heap.SameBut.update (h := s.heap) (a := L) ..).1, fun b hb => (Heap.SameBut.update (h := s.heap) (a := L) ..).2 b hb⟩, Heap.get?_update_self _ e hf, rfl⟩
/-- woken again -/
theorem GI.woken {X : Cx} {L : Addr} {q : Int} {ys : List Int} {k : Int} {σ : L2.St} {H : Hp} {s s' : Shared} (f : Far X L) (g : GI X L q ys σ H s) (z : Slp L k s s') : GI X L q (ys ++ [k]) σ H s' := by
  obtain ⟨t, I, sm, la⟩ := g
  obtain ⟨z1, z2, z3, mk, tkk, zn, zl⟩ := z
  obtain ⟨o', es', ep', ho', hd', rest'⟩ := id zn
  obtain ⟨mt, tkt, ⟨ot, est, ept, hot, hdt, _⟩, _⟩ := id la
  obtain ⟨t', sm', eL, _⟩ := sim_obj (L := L) (s := t) o' ⟨ot, hot⟩ (Obj.isFreed_of_dict hd')
  have H0L : X.H_0 L = none := I.ok.frf L f.mem
  have HL : H L = none := I.base.free L ot hot H0L (by show L ∉ X.ex; rw [f.ex]; simp)
  have baseL : X.base.get? L = none := (I.ok.funs.mem f.mem).1
  have nbL : ∀ {b o}, X.base.get? b = some o → b ≠ L := fun {b o} e z => by rw [z, baseL] at e; cases e
  have nhL : ∀ {b u}, H b = some u → b ≠ L := fun {b u} e z => by rw [z, HL] at e; cases e
  have tk : ∀ b, b ≠ L → t'.heap.get? b = t.heap.get? b := sm'.off
  have hex : ∀ b, b ∉ X.ex := fun b hb => by rw [f.ex] at hb; cases hb
  have cellL : ∀ x c, X.env.cells.lookup x = some c → c ≠ L := fun x c e z => by
    obtain ⟨v, oc, hoc, hdc⟩ := I.cell x c e
    obtain ⟨sl, e1⟩ := I.base.slot L ot hot H0L f.mem (hex L)
    rw [z, e1] at hoc
    cases hoc
    rw [hdt] at hdc
    cases hdc
  refine ⟨t', ⟨⟨I.ok.mod, I.ok.kind, I.ok.glob, I.ok.blt, ?_, I.ok.inj, I.ok.has, ?_, I.ok.hd, I.ok.frames, I.ok.stk, I.ok.exf, ?_, ?_, I.ok.noex, I.ok.exfs, ?_, I.ok.frf⟩, ?_, z2, ⟨?_, ?_, ?_, ?_, I.base.tups, I.base.frzs, I.base.tbls⟩, ?_, ?_, I.free, I.freeC, ?_, ?_, I.len⟩, ⟨sm'.os.trans sm.os, sm'.sz.trans sm.sz, fun b hb => (tk b hb).trans (sm.off b hb)⟩, mk, tkk, ⟨o', es', ep', eL, hd', rest'⟩, by rw [lastD_snoc]; exact zl⟩
  · show t'.heap.objs.size ≤ _
    rw [sm'.sz]
    exact I.ok.above
  · intro x c h1 h2
    show t'.heap.objs.size ≤ _
    rw [sm'.sz]
    exact I.ok.cab x c h1 h2
  · intro b o e
    obtain ⟨e1, e2⟩ := I.ok.bs b o e
    exact ⟨(tk b (nbL e)).trans e1, e2⟩
  · show _ ≤ t'.heap.objs.size
    rw [sm'.sz]
    exact I.ok.bsz
  · exact Heap.FunFrames.sameBut (L := L) (m := mk) ⟨sm'.sz, fun b hb => tk b hb⟩ ⟨o', es', ep', eL, hd', rest'⟩ I.ok.funs
  · show s'.os = t'.os
    rw [z1, sm'.os]
    exact I.os
  · intro b o e n hb hx
    have hbL : b ≠ L := fun z => hb (by rw [z]; exact f.mem)
    exact z3 b o hbL (I.base.keep b o ((tk b hbL).symm.trans e) n hb hx)
  · intro b o e n hb hx
    by_cases hbL : b = L
    · rw [hbL] at e ⊢
      rw [eL] at e
      cases e
      exact ⟨o'.slots, ho'⟩
    · obtain ⟨sl, e1⟩ := I.base.slot b o ((tk b hbL).symm.trans e) n hb hx
      exact ⟨sl, z3 b _ hbL e1⟩
  · intro b o e n hx
    by_cases hbL : b = L
    · rw [hbL]
      exact HL
    · exact I.base.free b o ((tk b hbL).symm.trans e) n hx
  · intro b o e hx
    by_cases hbL : b = L
    · rw [hbL]
      exact ⟨o', ho'⟩
    · obtain ⟨u, e1⟩ := I.base.there b o ((tk b hbL).symm.trans e) hx
      exact ⟨u, z3 b u hbL e1⟩
  · obtain ⟨m, ⟨ol, es, ep, el, rl⟩, hl⟩ := I.loc
    refine ⟨m, ⟨ol, es, ep, z3 _ _ f.loc el, rl⟩, fun i x v e1 e2 e3 => ?_⟩
    obtain ⟨u, r, lk⟩ := hl i x v e1 e2 e3
    refine ⟨u, r, ?_⟩
    rcases lk with lk | ⟨kk, c, e, oc, hoc, hdc⟩
    · exact .inl lk
    · exact .inr ⟨kk, c, e, oc, z3 c oc (cellL x c e) hoc, hdc⟩
  · intro x c e
    obtain ⟨v, oc, hoc, hdc⟩ := I.cell x c e
    exact ⟨v, oc, z3 c oc (cellL x c e) hoc, hdc⟩
  · intro p hp
    obtain ⟨e1, e2, e3, e4, e5⟩ := I.pin p hp
    have hpL : p.1 ≠ L := fun z => e4 (by rw [z]; exact f.mem)
    exact ⟨z3 _ _ hpL e1, e2, e3, e4, e5⟩
  · intro b u e
    refine (I.hok b u e).stay (fun c v hc y => z3 c v ?_ y) (fun _ y => y) fun _ _ y => y
    rcases hc with r | r
    · rw [r]
      exact nhL e
    · exact nhL r
end K89
set_option Elab.async false
set_option linter.all false
set_option maxRecDepth 100000
set_option maxHeartbeats 1000000
namespace K89
open PySem PySem.Spec PyProof.Rows L2 GenW

/-- where a generator sleeps: it has handed out the triple (m, k, what came last) -/
def FY (X : Cx) (L : Addr) (q : Int) : Protocol := fun n s₀ v s kap =>
  ∃ (ys : List Int) (m k : Int) (T : Addr) (σ : L2.St) (H : Hp), n + 1 + ys.length = sizeLine ∧ v = .ref T ∧ H T = some (.tup [.int m, .int k, .int (lastD q ys)]) ∧ GI X L q ys σ H s ∧ ∀ s', Slp L k s s' → kap (.send .none) s'
def FR (X : Cx) (L : Addr) (q : Int) (Q : List Int → Hp → Prop) : GenEnd := fun n s₀ r s =>
  (r = .ok (.ret .none) ∨ r = .ok .next) ∧ ∃ ys σ H, GI X L q ys σ H s ∧ Q ys H
/-- what is wanted behind a statement; the list: what is out so far -/
structure FEnds where
  nx : List Int → L2.St → Hp → Prop
  rt : List Int → VK
  bk : List Int → L2.St → Hp → Prop := fun _ _ _ => False
  ct : List Int → L2.St → Hp → Prop := fun _ _ _ => False
abbrev TF := FEnds → List Int → L2.St → Hp → Prop
def FEnds.ends (D : FEnds) (ys : List Int) : Ends := { nx := D.nx ys, rt := D.rt ys, bk := D.bk ys, ct := D.ct ys }
def FSP (X : Cx) (L : Addr) (q : Int) (D : FEnds) (ys : List Int) (f : Flow) (s : Shared) : Prop := match f with
  | .next => ∃ σ H, GI X L q ys σ H s ∧ D.nx ys σ H
  | .brk => ∃ σ H, GI X L q ys σ H s ∧ D.bk ys σ H
  | .cont => ∃ σ H, GI X L q ys σ H s ∧ D.ct ys σ H
  | .ret u => ∃ v σ H, GI X L q ys σ H s ∧ RelV v u ∧ D.rt ys v H
structure FC (X : Cx) (L : Addr) (A : Around) (c : Code) (fs : List Frame) (gd : Bool → Bool) : Prop where
  far : Far X L
  over : A.over c fs = X.A
  split : splitAtGen fs = none
  guard : fs.any Frame.guarded = false
  gd : gd false = false
structure FK (X : Cx) (L : Addr) (q : Int) (A : Around) (R : GenEnd) (c : Code) (fs : List Frame) (K : Flow → Sem PySem.Fin) (D : FEnds) : Prop where
  ok : ∀ (n : Nat) (ys : List Int) (s₀ s : Shared) (f : Flow), n + ys.length = sizeLine → FSP X L q D ys f s → Seg (model X.prog X.w) A R (FY X L q) n s₀ c (K f) fs s
abbrev TrS (X : Cx) (L : Addr) (q : Int) (m : Env → Sem Flow) (t : TF) : Prop :=
  ∀ (A : Around) (R : GenEnd) (n : Nat) (ys : List Int) (s₀ : Shared) (c : Code) (fs : List Frame) (K : Flow → Sem PySem.Fin) (J : Value → Sem PySem.Fin) (gd : Bool → Bool) (lv : List Value → List Value) (s : Shared) (σ : L2.St) (H : Hp) (D : FEnds),
    FC X L A c fs gd → n + ys.length = sizeLine → FK X L q A R c fs K D → GI X L q ys σ H s → t D ys σ H → Seg (model X.prog X.w) A R (FY X L q) n s₀ c ((m X.env).wrap K J gd lv) fs s
structure FS (X : Cx) (L : Addr) (q : Int) (st : Stmt) (t : TF) : Prop where
  run : TrS X L q (exec st) t
structure FSs (X : Cx) (L : Addr) (q : Int) (st : List Stmt) (t : TF) : Prop where
  run : TrS X L q (execs st) t
section
variable {X : Cx} {L : Addr} {q : Int} {st : Stmt} {rest : List Stmt}
theorem fsp_of {t0 : Shared} {D : FEnds} {ys : List Int} {f : Flow} {s : Shared} (sm : Sim L X.s_0 t0) (la : LastAt L (lastD q ys) t0.heap) (h : SP (Cx.from X t0) [] (D.ends ys) f s) : FSP X L q D ys f s := by
  cases f with
  | next => obtain ⟨σ, H, I, r⟩ := h; exact ⟨σ, H, ⟨t0, I, sm, la⟩, r⟩
  | brk => obtain ⟨σ, H, I, r⟩ := h; exact ⟨σ, H, ⟨t0, I, sm, la⟩, r⟩
  | cont => obtain ⟨σ, H, I, r⟩ := h; exact ⟨σ, H, ⟨t0, I, sm, la⟩, r⟩
  | ret u => obtain ⟨v, σ, H, I, r1, r⟩ := h; exact ⟨v, σ, H, ⟨t0, I, sm, la⟩, r1, r⟩
def tPl (t : TS) : TF := fun D ys σ H => t (D.ends ys) σ H
theorem fs_ps {t : TS} (hx : ∀ e s, ¬ X.xe e s) (h : ∀ t0, PS (Cx.from X t0) st t) : FS X L q st (tPl t) := by
  refine ⟨fun A R n ys s₀ c fs K J gd lv s σ H D g hn k hI ht => ?_⟩
  obtain ⟨t0, I, sm, la⟩ := hI
  refine seg_wrap ?_
  rw [g.over]
  exact wpAny_mono ((h t0).run _ s σ H (D.ends ys) I ht) (fun f s' hs => k.ok n ys s₀ s' f hn (fsp_of sm la hs)) fun x s' z => (hx x s' z).elim
def tF0 : TF := fun D ys σ H => D.nx ys σ H
theorem fss_nil : FSs X L q [] tF0 := ⟨fun A R n ys s₀ c fs K J gd lv s σ H D g hn k hI ht => seg_execs_nil (k.ok n ys s₀ s .next hn ⟨σ, H, hI, ht⟩)⟩
def tFThen (t u : TF) : TF := fun D ys σ H => t { D with nx := fun ys' σ' H' => u D ys' σ' H' } ys σ H
theorem fss_cons {t u : TF} (a : FS X L q st t) (b : FSs X L q rest u) : FSs X L q (st :: rest) (tFThen t u) := by
  refine ⟨fun A R n ys s₀ c fs K J gd lv s σ H D g hn k hI ht => ?_⟩
  refine seg_execs_cons (a.run A R n ys s₀ c fs _ J gd lv s σ H { D with nx := fun ys' σ' H' => u D ys' σ' H' } g hn ⟨fun n' ys' s₀' s' f hn' hs => ?_⟩ hI ht)
  cases f with
  | next => obtain ⟨σ', H', I', r⟩ := hs; exact b.run A R n' ys' s₀' c fs K J gd lv s' σ' H' D g hn' k I' r
  | brk => exact k.ok n' ys' s₀' s' .brk hn' hs
  | cont => exact k.ok n' ys' s₀' s' .cont hn' hs
  | ret u => exact k.ok n' ys' s₀' s' (.ret u) hn' hs
/-- yield (m, k, what came last) -/
def tFYield (q : Int) (te : TE) : TF := fun D ys σ H => ys.length < sizeLine ∧ te σ H fun x H1 => ∃ T m k, x = .ref T ∧ H1 T = some (.tup [.int m, .int k, .int (lastD q ys)]) ∧ D.nx (ys ++ [k]) σ H1
theorem fs_yield {e : Expr} {te : TE} {yp pos : Pos} (hx : ∀ e s, ¬ X.xe e s) (he : ∀ t0, PE (Cx.from X t0) e te) (hco : X.env.scope.isCoroutine = false := by rfl) (hi : interactive X.env = false := by rfl) :
    FS X L q (.Expr (.Yield (some e) yp) pos) (tFYield q te) := by
  refine ⟨fun A R n ys s₀ c fs K J gd lv s σ H D g hn k hI ht => ?_⟩
  obtain ⟨hlt, ht⟩ := ht
  obtain ⟨n, rfl⟩ : ∃ m, n = m + 1 := ⟨n - 1, by omega⟩
  obtain ⟨t0, I, sm, la⟩ := hI
  refine seg_Expr_Yield g.split g.gd g.guard ?_ hco hi
  rw [g.over]
  refine wpAny_mono ((he t0).run _ s σ H _ I ht) (fun v s' hv => ?_) fun x s' z => (hx x s' z).elim
  obtain ⟨x, H1, I1, rv, T, m, kk, rfl, hT, r⟩ := hv
  cases rv
  have G1 : GI X L q ys σ H1 s' := ⟨t0, I1, sm, la⟩
  intro kap hk
  refine ⟨ys, m, kk, T, σ, H1, hn, rfl, hT, G1, fun s'' z => hk .none s'' ?_⟩
  refine k.ok n (ys ++ [kk]) s'' s'' .next ?_ ⟨σ, H1, G1.woken g.far z, r⟩
  rw [List.length_append, List.length_singleton]
  omega
/-! ### while -/
def tFWhile (c : TT) (tb : TF) : TF := fun D ys σ H => ∃ W : Nat → List Int → L2.St → Hp → Prop, (∃ m, W m ys σ H) ∧ ∀ m ys σ H, W m ys σ H →
  c σ H fun b H1 => if b = true then ∃ N : List Int → L2.St → Hp → Prop, (∀ ys' σ' H', N ys' σ' H' → ∃ m', m' < m ∧ W m' ys' σ' H') ∧ tb { D with nx := N, ct := N, bk := D.nx } ys σ H1 else D.nx ys σ H1
theorem fc_loop {A : Around} {c c' : Code} {fs : List Frame} {gd : Bool → Bool} {k : Result → Sem PySem.Fin} {l kp : List Value} {p : Pos} (g : FC X L A c fs gd) (hw : c'.weight = 0) (hu : c'.cUnits = 0) :
    FC X L A c' (.ret k none (gd false) l c p kp :: fs) id := by
  refine ⟨g.far, (over_loop hw hu).trans g.over, ?_, ?_, rfl⟩
  · show (splitAtGen fs).map _ = none
    rw [g.split]
    rfl
  · show (gd false || fs.any Frame.guarded) = false
    rw [g.gd, g.guard]
    rfl
theorem fs_while {test : Expr} {body : List Stmt} {pos : Pos} {tc : TT} {tb : TF} (hx : ∀ e s, ¬ X.xe e s) (hc : ∀ t0, PT (Cx.from X t0) test tc) (hb : FSs X L q body tb) : FS X L q (.While test body [] pos) (tFWhile tc tb) := by
  refine ⟨fun A R n ys s₀ c fs K J gd lv s σ H D g hn k hI ht => ?_⟩
  obtain ⟨W, ⟨m0, w0⟩, turn⟩ := ht
  refine seg_While fun p => ?_
  have gl := fun (kk : Result → Sem PySem.Fin) => fc_loop (k := kk) (c' := .whileLoop test body [] X.env) (l := lv []) (kp := []) (p := p) g rfl rfl
  have loop : ∀ (m n : Nat) (ys : List Int) (s₀ s : Shared) (σ : L2.St) (H : Hp), n + ys.length = sizeLine → W m ys σ H → GI X L q ys σ H s →
      Seg (model X.prog X.w) A R (FY X L q) n s₀ (.whileLoop test body [] X.env) ((model X.prog X.w).den (.whileLoop test body [] X.env))
        (.ret (fun r => ((match r with | .ok f => (.pure f : Sem Flow) | .error e => .raise e).onRaise (cameBack X.env)).wrap K J gd lv) none (gd false) (lv []) c p [] :: fs) s := by
    intro m
    induction m using Nat.strongRecOn with
    | ind m ih =>
      intro n ys s₀ s σ H hn w hI
      refine seg_whileLoop ?_
      rw [(gl _).over]
      obtain ⟨t0, I, sm, la⟩ := hI
      refine wpAny_mono ((hc t0).run _ s σ H _ I (turn m ys σ H w)) (fun b s' hb' => ?_) fun x s' z => (hx x s' z).elim
      obtain ⟨H2, I2, q2⟩ := hb'
      cases b with
      | true =>
        obtain ⟨N, hN, q2⟩ := q2
        rw [if_pos rfl]
        refine hb.run A R n ys s₀ _ _ _ _ id id s' σ H2 { D with nx := N, ct := N, bk := D.nx } (gl _) hn ⟨fun n' ys' s₀' s3 f hn' hs => ?_⟩ ⟨t0, I2, sm, la⟩ q2
        cases f with
        | next =>
          obtain ⟨σ3, H3, I3, n3⟩ := hs
          obtain ⟨m', hm, w3⟩ := hN ys' σ3 H3 n3
          exact seg_again rfl (ih m' hm n' ys' s₀' s3 σ3 H3 hn' w3 I3)
        | cont =>
          obtain ⟨σ3, H3, I3, n3⟩ := hs
          obtain ⟨m', hm, w3⟩ := hN ys' σ3 H3 n3
          exact seg_again rfl (ih m' hm n' ys' s₀' s3 σ3 H3 hn' w3 I3)
        | brk => exact seg_leaf (.ok .next) (k.ok n' ys' s₀' s3 .next hn' hs)
        | ret v => exact seg_leaf (.ok (.ret v)) (k.ok n' ys' s₀' s3 (.ret v) hn' hs)
      | false =>
        rw [if_neg Bool.false_ne_true]
        refine seg_execs_nil ?_
        exact seg_leaf (.ok .next) (k.ok n ys s₀ s' .next hn ⟨σ, H2, ⟨t0, I2, sm, la⟩, q2⟩)
  exact loop m0 n ys s₀ s σ H hn w0 hI
end
end K89
set_option Elab.async false
set_option linter.all false
set_option maxRecDepth 100000
set_option maxHeartbeats 1000000
namespace K89
open PySem PySem.Spec PyProof.Rows L2 GenW

def gcxF (P : Program) (w : World) (K : PySem.W.Frag) (mg : Str → Option Value) (base : Heap) (N : List Str) (qual : Str) (scope : Scope) (f : Addr) (cd : Value) (A : Around) (outer : List Env) (s : Shared) (H : Hp) (pn : List (Addr × Obj)) : Cx :=
  L2.Cx.wish (gcxOf P w K mg base N qual scope f cd A outer s H (fun _ _ _ => False) pn) fun _ _ => False
def FSt (P : Program) (w : World) (outer : List Env) (H : Hp) (s : Shared) (L : Addr) (q : Int) (ys : List Int) (H' : Hp) (s1 : Shared) : Prop :=
  ∃ t : Shared, Sim L s t ∧ LastAt L (lastD q ys) t.heap ∧ s1.os = s.os ∧ AllBare s1.gens ∧ Un (frs outer) [] H H' t.heap s1.heap ∧ HOk P w H' s1.heap
def FEnd (P : Program) (w : World) (outer : List Env) (H : Hp) (s : Shared) (L : Addr) (q : Int) (Q : List Int → Hp → Prop) : Nat → Shared → Shared → Prop := fun _ _ s1 =>
  ∃ ys H', FSt P w outer H s L q ys H' s1 ∧ Q ys H'
def FItem (P : Program) (w : World) (outer : List Env) (H : Hp) (s : Shared) (L : Addr) (q : Int) (a : Addr) (g : Nat) : Protocol := fun n _ v s1 kap =>
  ∃ (ys : List Int) (m k : Int) (T : Addr) (H' : Hp), FSt P w outer H s L q ys H' s1 ∧ n + 1 + ys.length = sizeLine ∧ v = .ref T ∧ H' T = some (.tup [.int m, .int k, .int (lastD q ys)]) ∧ s1.heap.NoLimit ∧ s1.heap.IsGen a g ∧
    ∀ s', Slp L k s1 s' → kap (.send .none) s'
abbrev RF (F : Nat → Shared → Shared → Prop) : GenEnd := fun n s₀ r s1 => ((r = .ok (.ret .none) ∨ r = .ok .next) ∧ F n s₀ s1) ∨ ∃ e, r = .error e ∧ (fun (_ : Value) (_ : Shared) => False) e s1
/-- a generator that has not begun -/
def FMade (P : Program) (w : World) (k : Nat) (outer : List Env) (H : Hp) (s : Shared) (L : Addr) (q : Int) (Q : List Int → Hp → Prop) (u : Value) (s' : Shared) : Prop :=
  ∃ (a : Addr) (g : Nat) (c : Code), u = .ref a ∧ s.heap.objs.size ≤ a ∧ a < s'.heap.objs.size ∧ s'.heap.IsGen a g ∧ s'.gens[g]? = some (.fresh c) ∧ s'.os = s.os ∧ AllBare s'.gens ∧ s'.heap.NoLimit ∧ (∀ b o, s.heap.get? b = some o → s'.heap.get? b = some o) ∧
    ∀ (A : Around) (s2 : Shared), Room k A → A.frames = some outer → (∀ b o, s'.heap.get? b = some o → s2.heap.get? b = some o) → s2.os = s.os → AllBare s2.gens →
      Seg (model P w) A (RF (FEnd P w outer H s L q Q)) (FItem P w outer H s L q a g) sizeLine s2 c ((model P w).den c) [] s2
abbrev SpF := List V → Hp → Int → (List Int → Hp → Prop) → Prop
structure GFnF (P : Program) (w : World) (K : PySem.W.Frag) (mg : Str → Option Value) (base : Heap) (k : Nat) (f : Addr) (fd : FuncData) (ps : List Str) (sp : SpF) : Prop where
  len : ∀ vs H q Q, sp vs H q Q → vs.length = ps.length
  run : ∀ (A : Around) (outer : List Env) (s : Shared) (H : Hp) (args : Args) (us : List Value) (vs : List V) (q : Int) (Q : List Int → Hp → Prop) (L : Addr), Room k A → Env0 P w K mg base A outer s H → BindsTo s fd args (ps.zip us) → Vals vs us → sp vs H q Q →
    L ∈ frs outer → LastAt L q s.heap → codeAny (model P w) A (.call (.ref f) args) (fun r s' => match r with | .ok (.ret u) => FMade P w k outer H s L q Q u s' | _ => False) s

theorem gfnF_of {P : Program} {w : World} {K : PySem.W.Frag} {mg : Str → Option Value} {base : Heap} {k : Nat} {f : Addr} {name qual : Str} {params : Arguments} {body : List Stmt} {scope : Scope} {dV kV doc pm cdv ct oc : Value} {an od : Option Addr}
    {osl : Array (Option Value)} {N ps : List Str} {sp : SpF} (lk : K.lookup f = some ⟨oc, od, .func (PySem.W.fnOf name qual params body scope dV kV doc pm an cdv ct), osl⟩) (hcd : PySem.W.codeIn K cdv qual = true) (S : GScope N ps scope)
    (len : ∀ vs H q Q, sp vs H q Q → vs.length = ps.length)
    (hbody : ∀ (A : Around) (outer : List Env) (s : Shared) (H : Hp) (vs : List V) (q : Int) (Q : List Int → Hp → Prop) (pn : List (Addr × Obj)), Room k (A.deeper (envOfC qual scope s.heap.objs.size f cdv)) → sp vs H q Q →
      ∃ t, (∀ L, FSs (gcxF P w K mg base N qual scope f cdv A outer s H pn) L q body t) ∧ t { nx := fun ys _ H' => Q ys H', rt := fun ys v H' => v = .non ∧ Q ys H' } [] (start N vs) H) :
    GFnF P w K mg base (k + 1) f (PySem.W.fnOf name qual params body scope dV kV doc pm an cdv ct) ps sp := by
  refine ⟨len, fun A outer s H args us vs q Q L hr e0 hb r hsp hL hla => ?_⟩
  have hl := len _ _ _ _ hsp
  have KX : K.In s.heap := e0.mod.kin.keeps fun b o e => (e0.bs b o e).1
  have lim : s.heap.NoLimit := e0.mod.nolimit.keeps fun b o e => (e0.bs b o e).1
  have hkind : ∀ y ∈ ps.zip us, scope.names.lookup y.1 = some .local ∨ (scope.names.lookup y.1 = some .cell ∧ ((cellsFrom (s.heap.objs.size + 1) scope.names []).lookup y.1).isSome = true) := fun ⟨n, v⟩ hy => by
    rcases S.par n (List.of_mem_zip hy).1 with z | z
    · exact .inl z
    · exact .inr ⟨z, PySem.W.cellsFrom_some _ _ _ (.inl z)⟩
  refine codeAny_call_generator hr.depth (KX _ _ lk) rfl S.co S.gen rfl (PySem.W.codeRec_of KX hcd) (hb _ _ _ _ ?_)
  refine wpAny_newFunctionEnv_cells S.kind hkind fun env he s1 x => ?_
  subst he
  have kp1 : ∀ b o, s.heap.get? b = some o → s1.heap.get? b = some o := x.toInCall.keep
  have lim1 : s1.heap.NoLimit := lim.keeps kp1
  refine ⟨lim1, ?_⟩
  obtain ⟨h1, tk, es1, hk1⟩ := x.done
  have os1 : s1.os = s.os := by rw [es1]
  have gen1 : s1.gens = s.gens := by rw [es1]
  have lt1 : s.heap.objs.size < s1.heap.objs.size := x.toInCall.ns.lt
  have main : ∀ (go : Obj) (nm qn : Value) (tk2 : Nat), go.cls = .type "generator" → go.data = .fields #[.int s1.gens.size 0, nm, qn] → go.slots = #[] → (∀ h : Heap, (h.push go).get? h.objs.size = some go) →
      FMade P w (k + 1) outer H s L q Q (.ref s1.heap.objs.size) { s1 with gens := s1.gens.push (.fresh (.func body (envOfC qual scope s.heap.objs.size f cdv))), toks := tk2, heap := s1.heap.push go } := by
    intro go nm qn tk2 hgc hgd0 hgs hgp
    have hgen : ∀ h : Heap, h.get? s1.heap.objs.size = some go → h.IsGen s1.heap.objs.size s1.gens.size := fun h e => ⟨go, nm, qn, e, hgc, hgd0, hgs⟩
    have hpushed : (s1.heap.push go).get? s1.heap.objs.size = some go := hgp _
    refine ⟨s1.heap.objs.size, s1.gens.size, _, rfl, Nat.le_of_lt lt1, ?_, hgen _ hpushed, Array.getElem?_push_size .., os1, ?_, lim1.keeps fun b o e => Heap.get?_push_of_some _ e, fun b o e => Heap.get?_push_of_some _ (kp1 b o e), ?_⟩
    · show _ < (s1.heap.push _).objs.size
      rw [Heap.size_push]
      exact Nat.lt_succ_self _
    · exact AllBare.push (by rw [gen1]; exact e0.bare) rfl
    intro Aw s2 hrw hfr hk2 hos hba
    have e0w : Env0 P w K mg base Aw outer s H := ⟨hfr, e0.mod, e0.bs, e0.bsz, e0.funs, e0.frf, e0.hok, e0.bare⟩
    obtain ⟨t, ht, hq⟩ := hbody Aw outer s H vs q Q [(s1.heap.objs.size, go)] (hrw.deeper _) hsp
    have I1 := inv_startG (E := fun _ _ _ => False) S hrw.hd e0w hl r x
    have kp2 : ∀ b o, s1.heap.get? b = some o → s2.heap.get? b = some o := fun b o e => hk2 b o (Heap.get?_push_of_some _ e)
    have I2 : Inv (gcxOf P w K mg base N qual scope f cdv Aw outer s H (fun _ _ _ => False) []) [] (start N vs) H s2 :=
      I1.call' (ch := []) (hos.trans os1.symm) (Un.kept kp2) (I1.hok.kept kp2) hba fun b z => by simp at z
    have hea : s2.heap.get? s1.heap.objs.size = some go := hk2 s1.heap.objs.size go hpushed
    have hgd : ∀ v, go.data ≠ .cell v := fun v z => by rw [hgd0] at z; cases z
    have I3 : Inv (gcxF P w K mg base N qual scope f cdv Aw outer s H [(s1.heap.objs.size, go)]) [] (start N vs) H s2 := by
      refine Inv.wish (Inv.pinnedG I2 fun p hp => ?_) _
      rw [List.append_nil] at hp
      rw [List.mem_singleton.mp hp]
      exact ⟨hea, I1.hok.fresh (Nat.le_refl _), Nat.ne_of_gt lt1, I1.nofs (Nat.le_refl _), hgd⟩
    have Lold : L < s.heap.objs.size := by
      obtain ⟨_, o, ho, _⟩ := e0.funs.mem hL
      exact Heap.lt_size ho
    have far : Far (gcxF P w K mg base N qual scope f cdv Aw outer s H [(s1.heap.objs.size, go)]) L := by
      refine ⟨hL, fun z => ?_, rfl, fun p hp => ?_⟩
      · have z' : s.heap.objs.size = L := z
        exact absurd Lold (by rw [z']; exact Nat.lt_irrefl _)
      · have e : p = (s1.heap.objs.size, go) := List.mem_singleton.mp hp
        rw [e]
        exact Nat.ne_of_gt (Nat.lt_trans Lold lt1)
    have G0 : GI (gcxF P w K mg base N qual scope f cdv Aw outer s H [(s1.heap.objs.size, go)]) L q [] (start N vs) H s2 := ⟨s, I3, ⟨rfl, rfl, fun _ _ => rfl⟩, hla⟩
    have facts : ∀ {ys : List Int} {σ' : L2.St} {H' : Hp} {s' : Shared}, GI (gcxF P w K mg base N qual scope f cdv Aw outer s H [(s1.heap.objs.size, go)]) L q ys σ' H' s' → FSt P w outer H s L q ys H' s' ∧ s'.heap.NoLimit ∧ s'.heap.IsGen s1.heap.objs.size s1.gens.size := fun {ys σ' H' s'} hI => by
      obtain ⟨t0, I, sm, la⟩ := hI
      exact ⟨⟨t0, sm, la, I.os.trans sm.os, I.bare, I.base, I.hok⟩, I.nolimit, hgen _ (I.pin (s1.heap.objs.size, go) (List.mem_append_left _ (List.mem_singleton.mpr rfl))).1⟩
    refine seg_func ?_
    refine seg_imp (R := FR (gcxF P w K mg base N qual scope f cdv Aw outer s H [(s1.heap.objs.size, go)]) L q Q) (Y := FY (gcxF P w K mg base N qual scope f cdv Aw outer s H [(s1.heap.objs.size, go)]) L q)
      (fun n s₀ r s1' hR => ?_) (fun n s₀ v s1' kap kap' hkk hY => ?_) sizeLine ?_
    · obtain ⟨h1, ys, σ', H', hI, hQ⟩ := hR
      exact .inl ⟨h1, ys, H', (facts hI).1, hQ⟩
    · obtain ⟨ys, m, kk, T, σ', H', hn, ev, hT, hI, h3⟩ := hY
      obtain ⟨f1, f2, f3⟩ := facts hI
      exact ⟨ys, m, kk, T, H', f1, hn, ev, hT, f2, f3, fun s' z => hkk _ _ (h3 s' z)⟩
    · refine (ht L).run Aw _ sizeLine [] s2 _ [] _ _ id id s2 (start N vs) H _ ⟨far, over_func, rfl, rfl, rfl⟩ (Nat.add_zero _) ⟨fun n ys s₀ s' fl hn hs => ?_⟩ G0 hq
      cases fl with
      | next =>
        obtain ⟨σ', H', hI, hQ⟩ := hs
        exact seg_end (.ok (.ret .none)) ⟨.inl rfl, ys, σ', H', hI, hQ⟩
      | brk => obtain ⟨_, _, _, z⟩ := hs; exact z.elim
      | cont => obtain ⟨_, _, _, z⟩ := hs; exact z.elim
      | ret u =>
        obtain ⟨v, σ', H', hI, rv, ev, hQ⟩ := hs
        subst ev
        have eu : u = Value.none := rv
        subst eu
        exact seg_end (.ok (.ret .none)) ⟨.inl rfl, ys, σ', H', hI, hQ⟩
  exact main _ _ _ _ rfl rfl rfl fun h => Heap.get?_push_size _ rfl
end K89
set_option Elab.async false
set_option linter.all false
set_option maxRecDepth 100000
set_option maxHeartbeats 1000000
namespace K89
open PySem PySem.Spec PyProof.Rows L2 GenW

section
variable {prog : Program} {w : World} {A : Around} {E : Value → Shared → Prop} {s : Shared} {env : Env}
/-- behind an iterator that hands out no tuple of its own -/
theorem gen_go {tg : Expr} {a : Addr} {g : Nat} {u : Value} {Q : Unit → Shared → Prop} (hg : s.heap.IsGen a g) (h : Q () s) : wpAny (model prog w) A (letOwnedTupleGo tg (.ref a) u) Q E s := by
  obtain ⟨o, nm, qn, ho, hc, hd, _⟩ := hg
  exact go_of ho hc hd (by decide) h
/-- one turn of the loop of «_law_emptied», its names as they stand -/
theorem turn_raw {m : Str → Option Value} {T : Addr} {u1 : Value} {k c q : Int} {t1 t2 t3 : Tok} {p1 p2 p3 pt p4 p5 p6 p7 p8 p9 p10 p11 p12 : Pos} {kt j : Nat} {Q : Flow → Shared → Prop}
    (hh : A.handled = none) (hk : env.scope.kind = .function) (l1 : env.kindOf "_law_mover" = some .local) (l2 : env.kindOf "_law_old" = some .local) (l3 : env.kindOf "_law_new" = some .local) (l4 : env.kindOf "_law_last" = some .local)
    (hn : s.heap.Ns env.locals m) (hT : IsTup s.heap T #[u1, .int k t1, .int q t2]) (hm : m "_law_last" = some (.int q t3))
    (hQ : ∀ (h' : Heap) (tk : Nat) (t4 : Tok) (m' : Str → Option Value), h'.Ns env.locals m' → m' "_law_last" = some (.int k t4) → (∀ b o, b ≠ env.locals → s.heap.get? b = some o → h'.get? b = some o) → Q .next { s with heap := h', toks := tk }) :
    wpAny (model prog w) A (assign (.Tuple [.Name "_law_mover" p1, .Name "_law_old" p2, .Name "_law_new" p3] kt pt) env (.ref T)) (fun _ s2 =>
      wpAny (model prog w) A (execs [.If (.Compare (.Name "_law_new" p4) [.NotEq] [.Name "_law_last" p5] p6) [.Return (some (.Constant .none j p7)) p8] [] p9, .Assign [.Name "_law_last" p10] (.Name "_law_old" p11) p12] env) Q E s2) E s := by
  have hcls : (env.scope.kind == .class || (env.scope.kind == .module && env.locals != env.globals)) = false := by rw [hk]; rfl
  refine assign_Tuple_tuple hh hT rfl rfl fun h0 x0 => ?_
  have k0 : ∀ b o, s.heap.get? b = some o → h0.get? b = some o := fun b o e => x0 b o (Nat.ne_of_lt (Heap.lt_size e)) e
  have n0 : h0.Ns env.locals m := by
    obtain ⟨o, es, ep, ho, r⟩ := hn
    exact ⟨o, es, ep, k0 _ _ ho, r⟩
  show wpAny _ _ (assignInOrder [assign (.Name "_law_mover" p1) env, assign (.Name "_law_old" p2) env, assign (.Name "_law_new" p3) env] [u1, .int k t1, .int q t2]) _ _ _
  refine assignInOrder_cons (wpAny_assign_Name (wpAny_storeName_local l1 n0 (fun h1 n1 b1 => ?_) hcls))
  refine assignInOrder_cons (wpAny_assign_Name (wpAny_storeName_local l2 n1 (fun h2 n2 b2 => ?_) hcls))
  refine assignInOrder_cons (wpAny_assign_Name (wpAny_storeName_local l3 n2 (fun h3 n3 b3 => assignInOrder_nil ?_) hcls))
  have e1 : ¬ (("_law_last" : Str) = "_law_mover") := by decide +kernel
  have e2 : ¬ (("_law_last" : Str) = "_law_old") := by decide +kernel
  have e3 : ¬ (("_law_last" : Str) = "_law_new") := by decide +kernel
  have e4 : ¬ (("_law_old" : Str) = "_law_new") := by decide +kernel
  refine wpAny_execs_cons (wpAny_If (wpAny_isTrue_Compare1 (wpAny_Name (wpAny_loadName_local (v := .int q t2) hk l3 n3 (by simp) ?_) (by decide)) (by rfl)))
  refine wpAny_Name (wpAny_loadName_local (v := .int q t3) hk l4 n3 (by simp [e1, e2, e3, hm]) ?_) (by decide)
  refine ne_int ?_
  rw [show (q != q) = false by simp]
  refine wpAny_truthy_bool ?_
  rw [if_neg Bool.false_ne_true]
  refine wpAny_execs_nil ?_
  refine wpAny_execs_cons (wpAny_Assign_Name (wpAny_Name (wpAny_loadName_local (v := .int k t1) hk l2 n3 (by simp [e4]) ?_) (by decide)) rfl)
  refine wpAny_storeName_local l4 n3 (fun h4 n4 b4 => wpAny_execs_nil ?_) hcls
  exact hQ h4 _ t1 _ n4 (by simp) fun b o hb e => (b4.2 b hb).trans ((b3.2 b hb).trans ((b2.2 b hb).trans ((b1.2 b hb).trans (k0 b o e))))
end
section
variable {X : Cx} {pins : List (Addr × Obj)} {σ : L2.St} {H H' : Hp} {s s1 : Shared} {q : Int} {ys : List Int}
/-- behind the generator's last turn: this frame's other names are forgotten -/
theorem back_inv (I : Inv X pins σ H s) (hst : X.stack = X.env :: X.outer) (hf : X.env.frame = some X.env.locals) (hex : X.ex = []) {il : Nat} (hN : X.N[il]? = some ("_law_last" : Str)) (hl : X.env.kindOf "_law_last" = some .local)
    (hF : FSt X.prog X.w X.stack H s X.env.locals q ys H' s1) {h' : Heap} {g : Array GenState} {tk : Nat} {dr : Drawn} (hb : AllBare g) (k : ∀ b o, s1.heap.get? b = some o → h'.get? b = some o) :
    Inv X pins ((List.replicate σ.length none).set il (some (.int (lastD q ys)))) H' { s1 with heap := h', gens := g, toks := tk, drawn := dr } := by
  obtain ⟨t, sm, la, os1, _, U, ok1⟩ := hF
  have fsL : frs X.stack = X.env.locals :: X.fs := by rw [hst]; show List.filterMap _ _ = _; rw [List.filterMap_cons, hf]; rfl
  have off : ∀ b o, b ≠ X.env.locals → s.heap.get? b = some o → t.heap.get? b = some o := fun b o hb e => (sm.off b hb).trans e
  have oldL : ∀ b o, X.s_0.heap.get? b = some o → b ≠ X.env.locals := fun b o e => Nat.ne_of_lt (Nat.lt_of_lt_of_le (Heap.lt_size e) I.ok.above)
  have nex : ∀ b, b ∉ ([] : List Addr) := fun b => by simp
  obtain ⟨mt, tkt, nt, lt⟩ := la
  obtain ⟨ot, est, ept, hot, rt⟩ := id nt
  have HL : H' X.env.locals = none := U.free _ ot hot I.free (nex _)
  have Lmem : X.env.locals ∈ frs X.stack := by rw [fsL]; exact List.mem_cons_self
  obtain ⟨slL, eL⟩ := U.slot _ ot hot I.free Lmem (nex _)
  have nL : h'.Ns X.env.locals mt := ⟨_, est, ept, k _ _ eL, rt⟩
  have cellK : ∀ x c, X.env.cells.lookup x = some c → ∃ v, h'.IsCell c v := fun x c e => by
    obtain ⟨v, oc, hoc, hdc⟩ := I.cell x c e
    have hcL := I.cne x c e
    by_cases hc : c ∈ frs X.stack
    · obtain ⟨sl, z⟩ := U.slot c oc (off c oc hcL hoc) (I.freeC x c e) hc (nex _)
      exact ⟨v, _, k _ _ z, hdc⟩
    · exact ⟨v, oc, k _ _ (U.keep c oc (off c oc hcL hoc) (I.freeC x c e) hc (nex _)), hdc⟩
  have ilt : il < σ.length := by rw [I.len]; exact (List.getElem?_eq_some_iff.mp hN).1
  refine ⟨I.ok, os1.trans I.os, hb, ⟨?_, ?_, ?_, ?_, ?_, ?_, ?_⟩, ⟨mt, nL, ?_⟩, cellK, HL, ?_, ?_, ok1.kept k, ?_⟩
  · intro b o e n hbf hx
    have hbL := oldL b o e
    have e1 := I.base.keep b o e n hbf hx
    exact k _ _ (U.keep b o (off b o hbL e1) (I.base.free b o e n hx) (by rw [fsL]; exact fun z => (List.mem_cons.mp z).elim hbL hbf) (nex _))
  · intro b o e n hbf hx
    have hbL := oldL b o e
    obtain ⟨sl, e1⟩ := I.base.slot b o e n hbf hx
    obtain ⟨sl', e2⟩ := U.any (off b _ hbL e1) (I.base.free b o e n hx) (nex _)
    exact ⟨sl', k _ _ e2⟩
  · intro b o e n hx
    obtain ⟨o', e1⟩ := I.base.there b o e hx
    exact U.free b o' (off b o' (oldL b o e) e1) (I.base.free b o e n hx) (nex _)
  · intro b o e hx
    obtain ⟨o', e1⟩ := I.base.there b o e hx
    obtain ⟨o2, e2⟩ := U.there b o' (off b o' (oldL b o e) e1) (nex _)
    exact ⟨o2, k _ _ e2⟩
  · exact fun b xs e => U.tups b xs (I.base.tups b xs e)
  · exact fun b o u e => U.frzs b o u (I.base.frzs b o u e)
  · intro b ps e
    obtain ⟨m1, e1⟩ := I.base.tbls b ps e
    obtain ⟨m2, e2⟩ := U.tbls b _ e1
    exact ⟨m1 ++ m2, by rw [e2, Array.append_assoc]⟩
  · intro i x v e1 e2 _
    by_cases hi : i = il
    · subst hi
      rw [hN] at e1
      cases e1
      rw [List.getElem?_set_self (by simpa using ilt)] at e2
      cases e2
      exact ⟨.int (lastD q ys) tkt, ⟨tkt, rfl⟩, .inl ⟨hl, lt⟩⟩
    · rw [List.getElem?_set_ne (Ne.symm hi), List.getElem?_replicate] at e2
      split at e2 <;> cases e2
  · intro x c e
    obtain ⟨v, oc, hoc, _⟩ := I.cell x c e
    exact U.free c oc (off c oc (I.cne x c e) hoc) (I.freeC x c e) (nex _)
  · intro p hp
    obtain ⟨e1, e2, e3, e4, e5⟩ := I.pin p hp
    have off1 := off p.1 p.2 e3 e1
    exact ⟨k _ _ (U.keep _ _ off1 e2 (by rw [fsL]; exact fun z => (List.mem_cons.mp z).elim e3 e4) (nex _)), U.free _ _ off1 e2 (nex _), e3, e4, e5⟩
  · rw [List.length_set, List.length_replicate]
    exact I.len
end
end K89
set_option Elab.async false
set_option linter.all false
set_option maxRecDepth 100000
set_option maxHeartbeats 1000000
namespace K89
open PySem PySem.Spec PyProof.Rows L2 GenW

/-- for _law_mover, _law_old, _law_new in chain(..): the loop of «_law_emptied» -/
def tForG (il : Nat) (sp : SpF) (t : TA) : TS := fun D σ H => ∃ q, σ[il]? = some (some (.int q)) ∧
  t σ H fun vs H1 => sp vs H1 q fun ys H2 => D.nx ((List.replicate σ.length none).set il (some (.int (lastD q ys)))) H2
section
variable {X : Cx} {k il : Nat} {f : Addr} {fd : FuncData} {ps : List Str} {sp : SpF} {x : Str} {p pos pos' : Pos} {e : Expr} {es : List Expr} {t : TA}
theorem last_of {pins : List (Addr × Obj)} {σ : L2.St} {H : Hp} {s : Shared} {q : Int} (I : Inv X pins σ H s) (hN : X.N[il]? = some ("_law_last" : Str)) (hl : X.env.kindOf "_law_last" = some .local) (hs : σ[il]? = some (some (.int q))) : LastAt X.env.locals q s.heap := by
  obtain ⟨m, n, lk⟩ := I.loc
  obtain ⟨u, r, l⟩ := lk il _ _ hN hs (.inl hl)
  obtain ⟨tk, rfl⟩ := r
  rcases l with ⟨_, l⟩ | ⟨z | z, _⟩
  · exact ⟨m, tk, n, l⟩
  · rw [hl] at z; cases z
  · rw [hl] at z; cases z
theorem fst_last {P : Program} {w : World} {outer : List Env} {H H' : Hp} {s s1 : Shared} {L : Addr} {q : Int} {ys : List Int} (h : FSt P w outer H s L q ys H' s1) (hm : L ∈ frs outer) (hL : H L = none) : LastAt L (lastD q ys) s1.heap := by
  obtain ⟨t, sm, la, _, _, U, _⟩ := h
  refine last_obj la fun o ho => ?_
  exact U.slot L o ho hL hm (by simp)
theorem ps_forGen {p1 p2 p3 pt p4 p5 p6 p7 p8 p9 p10 p11 p12 : Pos} {kt j : Nat} (F : GFnF X.prog X.w X.K X.mg X.base k f fd ps sp) (hr : Room (k + 1) X.A) (hst : X.stack = X.env :: X.outer) (hf : X.env.frame = some X.env.locals) (hex : X.ex = [])
    (hN : X.N[il]? = some ("_law_last" : Str)) (hk : X.env.scope.kind = .function)
    (l1 : X.env.kindOf "_law_mover" = some .local) (l2 : X.env.kindOf "_law_old" = some .local) (l3 : X.env.kindOf "_law_new" = some .local) (l4 : X.env.kindOf "_law_last" = some .local)
    (hg : Gl X x) (hm : X.mg x = some (.ref f)) (hki : PySem.W.keepIn X.K (.ref f) = true) (hb : Binds X.K fd ps []) (ha : PA X (e :: es) t)
    (hdb : (x == ("__debug__" : Str)) = false := by decide) (he : starEach (e :: es) X.env = (false, eval e X.env) :: starEach es X.env := by rfl) (hpl : (backTo pos' (starEach es X.env)).any (·.1) = false := by rfl) :
    PS X (.For (.Tuple [.Name "_law_mover" p1, .Name "_law_old" p2, .Name "_law_new" p3] kt pt) (.Call (.Name x p) (e :: es) [] pos')
      [.If (.Compare (.Name "_law_new" p4) [.NotEq] [.Name "_law_last" p5] p6) [.Return (some (.Constant .none j p7)) p8] [] p9, .Assign [.Name "_law_last" p10] (.Name "_law_old" p11) p12] [] pos) (tForG il sp t) := by
  refine ⟨fun pins s σ H D I h => ?_⟩
  obtain ⟨q, hq, h⟩ := h
  have fsL : X.env.locals ∈ frs X.stack := by
    rw [hst]; show _ ∈ List.filterMap _ _; rw [List.filterMap_cons, hf]; exact List.mem_cons_self
  refine wpAny_For ?_ (fun _ => rfl)
  refine wpAny_Call_Name_kw (ld_glob I hg hm ?_ hdb)
  refine PySem.W.callWith_K (h₀ := X.base) I.ok.mod.kin hki (thn (ha.run pos' pins s σ H _ I h) fun us s1 ⟨vs, H1, I1, r, h1⟩ => ⟨I1.kIn, ?_⟩) he hpl
  have hl2 : us.length = ps.length := by rw [← r.length]; exact F.len _ _ _ _ h1
  have hb' := hb s1 us I1.kIn (by rw [List.append_nil]; exact hl2)
  rw [List.append_nil] at hb'
  refine wpAny_call (codeAny_mono (F.run X.A X.stack s1 H1 ⟨us, []⟩ us vs q _ X.env.locals (hr.mono (Nat.le_succ k)) I1.env0 hb' r h1 fsL (last_of I1 hN l4 hq)) fun res s2 hq2 => ?_)
  cases res with
  | error e => exact False.elim hq2
  | ok fl =>
  cases fl with
  | next => exact False.elim hq2
  | brk => exact False.elim hq2
  | cont => exact False.elim hq2
  | ret u =>
  obtain ⟨a, g, c, rfl, ha1, ha2, hgen, hgs, hos, hba, hnl, hkp, wake⟩ := hq2
  refine wpAny_pyIter_gen hgen ?_
  have HL : H1 X.env.locals = none := I1.free
  have aL : X.env.locals ≠ a := Nat.ne_of_lt (Nat.lt_of_lt_of_le I1.lt ha1)
  have SL : X.env.locals ≠ cStatics := fun z => by
    obtain ⟨mc, ⟨o, es, ep, ho, _⟩, _⟩ := I1.ok.mod.nolimit
    have z1 := Heap.lt_size ho
    have z2 := Nat.le_trans I1.ok.bsz I1.ok.above
    rw [← z] at z1
    exact absurd (Nat.lt_of_lt_of_le z1 z2) (Nat.lt_irrefl _)
  have loc1 := last_of I1 hN l4 hq
  refine codeAny_forLoop_any (fun n s3 => ∃ gs, s3.gens[g]? = some gs ∧ gs.Goes (model X.prog X.w) X.A.in1 (RF (FEnd X.prog X.w X.stack H1 s1 X.env.locals q (fun ys H2 => D.nx ((List.replicate σ.length none).set il (some (.int (lastD q ys)))) H2)))
      (FItem X.prog X.w X.stack H1 s1 X.env.locals q a g) n (.send .none) (s3.setGen g .running) ∧ s3.heap.IsGen a g ∧ s3.heap.NoLimit) ?_ sizeLine ⟨_, hgs, ?_, hgen, hnl⟩
  · rintro n s3 ⟨gs, hgs3, hgo, hgen3, hnl3⟩
    have hgl : g < s3.gens.size := (Array.getElem?_eq_some_iff.mp hgs3).1
    refine wpAny_gsz (n := g + 1) hgl (next_genG (A := X.A) hr.hd hnl3 hr.depth hgen3 hgs3 hgo (fun v s4 gs' hbare hv => ?_) (fun s4 hp4 h' hk4 => ?_) fun e s4 he4 => ?_)
    · intro hsz
      obtain ⟨ys, m, kk, T, H', hF, hn, rfl, hT, hl4, hg4, hkap⟩ := hv
      refine gen_go (s := s4.setGen g gs') hg4 ?_
      have ok4 : HOk X.prog X.w H' s4.heap := by
        obtain ⟨_, _, _, _, _, _, z⟩ := hF
        exact z
      have la4 := fst_last hF fsL HL
      obtain ⟨m4, tk4, n4, e4⟩ := la4
      have b4 : AllBare s4.gens := by
        obtain ⟨_, _, _, _, z, _, _⟩ := hF
        exact z
      have tup : ∃ u1 t1 t2, IsTup s4.heap T #[u1, .int kk t1, .int (lastD q ys) t2] := by
        have z := ok4 T _ hT
        obtain ⟨_, its, r, e⟩ := z
        cases r with
        | cons r1 r => cases r with
          | cons r2 r => cases r with
            | cons r3 r => cases r with
              | nil =>
                obtain ⟨t1, rfl⟩ := r2
                obtain ⟨t2, rfl⟩ := r3
                exact ⟨_, t1, t2, e⟩
      obtain ⟨u1, t1, t2, hTu⟩ := tup
      refine turn_raw (c := 0) (s := s4.setGen g gs') hr.hd hk l1 l2 l3 l4 n4 hTu e4 fun h' tk t4 m' n' lm' keep => ?_
      cases n with
      | zero => exact False.elim (hkap { s4.setGen g gs' with heap := h', toks := tk } ⟨rfl, allBare_setGen (s := s4) b4 hbare, keep, m', t4, n', lm'⟩)
      | succ n =>
        have hsz1 : g < s4.gens.size := by
          have z : (s4.setGen g gs').gens.size = s4.gens.size := setGen_size _ _ _
          have hsz' : g + 1 ≤ (s4.setGen g gs').gens.size := hsz
          omega
        refine ⟨n, Nat.lt_succ_self n, gs', setGen_at hsz1, ?_, ?_, ?_⟩
        · exact hkap _ ⟨rfl, allBare_setGen (s := { s4.setGen g gs' with heap := h', toks := tk }) (allBare_setGen (s := s4) b4 hbare) rfl, keep, m', t4, n', lm'⟩
        · obtain ⟨o, nm, qn, ho, z⟩ := hg4
          exact ⟨o, nm, qn, keep a o (Ne.symm aL) ho, z⟩
        · obtain ⟨mc, hns, hnn⟩ := hl4
          exact ⟨mc, hns.at' fun o e => keep _ o (Ne.symm SL) e, hnn⟩
    · intro hsz
      obtain ⟨ys, H', hF, hQ⟩ := hp4
      refine wpAny_execs_nil ?_
      have b4 : AllBare s4.gens := by
        obtain ⟨_, _, _, _, z, _, _⟩ := hF
        exact z
      exact ⟨_, _, back_inv I1 hst hf hex hN l4 hF (h' := h') (g := (s4.setGen g .finished).gens) (tk := s4.toks) (dr := s4.drawn) (allBare_setGen b4 rfl) hk4, hQ⟩
    · exact False.elim he4
  · refine ⟨rfl, ?_⟩
    exact wake X.A.in1 _ hr.in1 I1.ok.frames (fun b o e => e) hos (allBare_setGen hba rfl)
end
end K89
set_option Elab.async false
set_option linter.all false
set_option maxRecDepth 100000
set_option maxHeartbeats 1000000
namespace K89
open PySem PySem.Spec PyProof.Rows L2

/-! ### the text -/
def top (i : Nat) : Stmt := PySem.Challenge.pw_movingup_k89_whole_departures_in_order.main.body.getD i (.Pass ⟨0, 0, 0, 0⟩)

/-! ### promises as facts of a name -/
def Cal (P : Program) (w : World) (K : PySem.W.Frag) (mg : Str → Option Value) (base : Heap) (k : Nat) (x : Str) (ps : List Str) (sp : Sp) : Prop :=
  ∃ f fd, mg x = some (.ref f) ∧ PySem.W.keepIn K (.ref f) = true ∧ Binds K fd ps [] ∧ FnOk P w K mg base CX0 k f fd ps sp
def CalM (P : Program) (w : World) (K : PySem.W.Frag) (mg : Str → Option Value) (base : Heap) (k : Nat) (C : Addr) (m : Str) (ps : List Str) (sp : Sp) : Prop :=
  Cls K C ∧ ∃ f fd, Meth K C m f ∧ Binds K fd ps [] ∧ FnOk P w K mg base CX0 k f fd ps sp
def CalI (P : Program) (w : World) (K : PySem.W.Frag) (mg : Str → Option Value) (base : Heap) (k : Nat) (x : Str) (C : Addr) (ps : List Str) (sp : Sp) : Prop :=
  mg x = some (.ref C) ∧ ∃ f fd, Mk K C f ∧ Binds K fd ps [] ∧ FnOk P w K mg base CX0 k f fd ps sp
/-- a property -/
def CalP (P : Program) (w : World) (K : PySem.W.Frag) (mg : Str → Option Value) (base : Heap) (k : Nat) (C : Addr) (m : Str) (sp : Sp) : Prop :=
  Cls K C ∧ ∃ p g fd, PropOf K C m p g ∧ Binds K fd ["self"] [] ∧ FnOk P w K mg base CX0 k g fd ["self"] sp
/-- where a global def, a method, an __init__, a getter stands -/
def Dg (K : PySem.W.Frag) (mg : Str → Option Value) (x : Str) (st : Stmt) : Prop := ∃ f fd, mg x = some (.ref f) ∧ Fun K x x st f fd
def Dm (K : PySem.W.Frag) (C : Addr) (m qual : Str) (st : Stmt) : Prop := Cls K C ∧ ∃ f fd, Meth K C m f ∧ Fun K m qual st f fd
def Di (K : PySem.W.Frag) (mg : Str → Option Value) (x : Str) (C : Addr) (qual : Str) (st : Stmt) : Prop := mg x = some (.ref C) ∧ ∃ f fd, Mk K C f ∧ Fun K "__init__" qual st f fd
def Dp' (K : PySem.W.Frag) (C : Addr) (m qual : Str) (st : Stmt) : Prop := Cls K C ∧ ∃ p g fd, PropOf K C m p g ∧ Fun K m qual st g fd
section
variable {P : Program} {w : World} {K : PySem.W.Frag} {mg : Str → Option Value} {base : Heap} {k : Nat} {x m qual : Str} {st : Stmt} {C : Addr} {N ps : List Str} {sp : Sp}
abbrev HB (st : Stmt) (x qual : Str) (ps : List Str) : Prop := ∀ (kV doc pm : Value) (an : Option Addr) (cdv ct : Value) (us : List Value), us.length = ps.length → bindArgs (PySem.W.fnOf x qual (defArgs st) (defBody st) (defScope st) .none kV doc pm an cdv ct) ⟨us, []⟩ = pure (ps.zip us)
abbrev HBody (P : Program) (w : World) (K : PySem.W.Frag) (mg : Str → Option Value) (base : Heap) (k : Nat) (qual : Str) (st : Stmt) (N : List Str) (sp : Sp) : Prop :=
  ∀ (f : Addr) (cdv : Value) (A : Around) (outer : List PySem.Env) (s : Shared) (H : Hp) (vs : List V) (Q : VK) (E : XK), Room k (A.deeper (envOfC qual (defScope st) s.heap.objs.size f cdv)) → sp vs H Q E →
      ∃ t, PSs (cxOf CX0 P w K mg base N qual (defScope st) f cdv A outer s H E).nox (defBody st) t ∧ t { nx := fun _ H' => Q .non H', rt := Q } (start N vs) H
theorem Dg.ok (D : Dg K mg x st) (S : FnScope N ps (defScope st)) (hb : HB st x x ps) (len : ∀ vs H Q E, sp vs H Q E → vs.length = ps.length) (hbody : HBody P w K mg base k x st N sp) : Cal P w K mg base (k + 1) x ps sp := by
  obtain ⟨f, fd, m, F⟩ := D
  exact ⟨f, fd, m, F.kp, F.binds hb, F.ok S len (hbody f)⟩
theorem Dm.ok (D : Dm K C m qual st) (S : FnScope N ps (defScope st)) (hb : HB st m qual ps) (len : ∀ vs H Q E, sp vs H Q E → vs.length = ps.length) (hbody : HBody P w K mg base k qual st N sp) : CalM P w K mg base (k + 1) C m ps sp := by
  obtain ⟨c, f, fd, m, F⟩ := D
  exact ⟨c, f, fd, m, F.binds hb, F.ok S len (hbody f)⟩
theorem Di.ok (D : Di K mg x C qual st) (S : FnScope N ps (defScope st)) (hb : HB st "__init__" qual ps) (len : ∀ vs H Q E, sp vs H Q E → vs.length = ps.length) (hbody : HBody P w K mg base k qual st N sp) : CalI P w K mg base (k + 1) x C ps sp := by
  obtain ⟨c, f, fd, m, F⟩ := D
  exact ⟨c, f, fd, m, F.binds hb, F.ok S len (hbody f)⟩
theorem Dp'.ok (D : Dp' K C m qual st) (S : FnScope N ["self"] (defScope st)) (hb : HB st m qual ["self"]) (len : ∀ vs H Q E, sp vs H Q E → vs.length = ["self"].length) (hbody : HBody P w K mg base k qual st N sp) : CalP P w K mg base (k + 1) C m sp := by
  obtain ⟨c, p, g, fd, m, F⟩ := D
  exact ⟨c, p, g, fd, m, F.binds hb, F.ok S len (hbody g)⟩
end
section
variable {X : Cx} {k : Nat} {C : Addr} {ps : List Str} {sp : Sp} {x m : Str} {p pos apos : Pos} {e o : Expr} {es : List Expr} {t : TA} {ta : TE}
theorem pe_cal (c : Cal X.prog X.w X.K X.mg X.base k x ps sp) (hr : Room k X.A) (hg : Gl X x) (ha : PA X (e :: es) t)
    (hdb : (x == ("__debug__" : Str)) = false := by decide) (he : starEach (e :: es) X.env = (false, eval e X.env) :: starEach es X.env := by rfl) (hpl : (backTo pos (starEach es X.env)).any (·.1) = false := by rfl) :
    PE X (.Call (.Name x p) (e :: es) [] pos) (tCall sp [] E0 t) := by
  obtain ⟨f, fd, hm, hk, hb, F⟩ := c
  exact pe_call F hr hg hm hk hb .nil pass0 ha hdb he hpl
theorem pe_mkc (c : CalI X.prog X.w X.K X.mg X.base k x C ps sp) (hr : Room (k + 1) X.A) (hg : Gl X x) (ha : PA X (e :: es) t)
    (hdb : (x == ("__debug__" : Str)) = false := by decide) (he : starEach (e :: es) X.env = (false, eval e X.env) :: starEach es X.env := by rfl) (hpl : (backTo pos (starEach es X.env)).any (·.1) = false := by rfl) :
    PE X (.Call (.Name x p) (e :: es) [] pos) (tMake C sp [] E0 t) := by
  obtain ⟨hm, f, fd, M, hb, F⟩ := c
  exact pe_make M F hr hg hm hb .nil pass0 ha hdb he hpl
theorem pe_mth {pl : Sem Bool} (c : CalM X.prog X.w X.K X.mg X.base k C m ps sp) (hr : Room k X.A) (he : PE X o ta) (ha : PA X (e :: es) t)
    (hst : starEach (e :: es) X.env = (false, eval e X.env) :: starEach es X.env := by rfl) (hpl : (backTo pos (starEach es X.env)).any (·.1) = false := by rfl)
    (ht : eval (.Call (.Attribute o m apos) (e :: es) [] pos) X.env = (do
      let ov ← eval o X.env
      standAt apos.atName
      let (f, first) ← holding [ov] (getMethod ov m pl)
      callWith pos f first (backTo pos (starEach (e :: es) X.env)) (backToKw pos (keywordEach [] X.env))) := by rfl) :
    PE X (.Call (.Attribute o m apos) (e :: es) [] pos) (tMeth C m sp [] E0 ta t) := by
  obtain ⟨cc, f, fd, hm, hb, F⟩ := c
  exact pe_meth he cc hm F hr hb .nil pass0 ha hst hpl ht
theorem pe_mth0 {pl : Sem Bool} (c : CalM X.prog X.w X.K X.mg X.base k C m ps sp) (hr : Room k X.A) (he : PE X o ta)
    (ht : eval (.Call (.Attribute o m apos) [] [] pos) X.env = (do
      let ov ← eval o X.env
      standAt apos.atName
      let (f, first) ← holding [ov] (getMethod ov m pl)
      callWith pos f first (backTo pos (starEach [] X.env)) (backToKw pos (keywordEach [] X.env))) := by rfl) :
    PE X (.Call (.Attribute o m apos) [] [] pos) (tMeth C m sp [] E0 ta tNil) := by
  obtain ⟨cc, f, fd, hm, hb, F⟩ := c
  exact pe_meth0 he cc hm F hr hb .nil pass0 ht
theorem pe_prp (c : CalP X.prog X.w X.K X.mg X.base k C m sp) (hr : Room (k + 1) X.A) (he : PE X o ta) (hab : attributeBase o m X.env (eval o X.env) = eval o X.env) : PE X (.Attribute o m pos) (tProp C sp [] E0 ta) := by
  obtain ⟨cc, p, g, fd, hp, hb, F⟩ := c
  exact pe_prop he cc hp F hr hb .nil pass0 hab
end
/-! ### facts of the text -/
structure Txt (K : PySem.W.Frag) (mg : Str → Option Value) (CT CU CO : Addr) : Prop where
  isinstance : mg "isinstance" = none
  int : mg "int" = none
  bool : mg "bool" = none
  tuple : mg "tuple" = none
  list : mg "list" = none
  enumerate : mg "enumerate" = none
  len : mg "len" = none
  range : mg "range" = none
  min : mg "min" = none
  sorted : mg "sorted" = none
  zip : mg "zip" = none
  sum : mg "sum" = none
  dict : mg "dict" = none
  max : mg "max" = none
  clT : Cls K CT
  clU : Cls K CU
  clO : Cls K CO
  tAbove : NoAttr K CT "above"
  tBelow : NoAttr K CT "below"
  uTree : NoAttr K CU "tree"
  uWeights : NoAttr K CU "weights"
  uLeft : NoAttr K CU "left"
  uNext : NoAttr K CU "next_posts"
  uWays : NoAttr K CU "ways"
  oAbove : NoAttr K CO "above"
  oNow : NoAttr K CO "now"
  oPast : NoAttr K CO "past"
  oDone : NoAttr K CO "done"

/-! ### heaps -/
/-- all but what stands in l is as it was -/
def Kp (l : List Addr) (H H' : Hp) : Prop := ∀ b o, b ∉ l → H b = some o → H' b = some o
theorem Kp.refl {l : List Addr} (H : Hp) : Kp l H H := fun _ _ _ e => e
theorem Kp.trans {l : List Addr} {H H1 H2 : Hp} (a : Kp l H H1) (b : Kp l H1 H2) : Kp l H H2 := fun c o n e => b c o n (a c o n e)
theorem Kp.of {l : List Addr} {H H' : Hp} (a : Same H H') : Kp l H H' := fun b o _ e => a b o e
theorem Kp.same {H H' : Hp} (a : Kp [] H H') : Same H H' := fun b o e => a b o (by simp) e
theorem Kp.mono {l l' : List Addr} {H H' : Hp} (a : Kp l H H') (h : ∀ b, b ∈ l → b ∈ l') : Kp l' H H' := fun b o n e => a b o (fun z => n (h b z)) e
theorem _root_.L2.Same.up {H H' : Hp} {p : Addr} {o : HO} (a : Same H H') (h : H' p = none) : Same H (upd H' p o) := fun b u e => by
  rw [upd_ne (fun z => by rw [z] at e; rw [a _ _ e] at h; cases h)]
  exact a b u e
theorem Kp.up {l : List Addr} {H H' : Hp} {p : Addr} {o : HO} (a : Kp l H H') (h : p ∈ l) : Kp l H (upd H' p o) := fun b u n e => by
  rw [upd_ne (fun z => n (by rw [z]; exact h))]
  exact a b u n e
theorem Kp.new {l : List Addr} {H H' : Hp} {p : Addr} {o : HO} (a : Kp l H H') (h : H' p = none) : Kp l H (upd H' p o) := fun b u n e => by
  rw [upd_ne (fun z => by rw [z] at e n; rw [a _ _ n e] at h; cases h)]
  exact a b u n e
/-- new in H', against H -/
theorem _root_.L2.Same.nw {H H' : Hp} {p : Addr} (a : Same H H') (h : H' p = none) : H p = none := a.free h
theorem Kp.nw {l : List Addr} {H H' : Hp} {p : Addr} (a : Kp l H H') (hp : p ∉ l) (h : H' p = none) : H p = none := by
  cases q : H p with
  | none => rfl
  | some o => rw [a p o hp q] at h; cases h

/-! ### charts and arrangements -/
def oV : Option Nat → V
  | none => .non
  | some a => .int (a : Int)
def chV (n : Nat) (par : Nat → Nat) : List V := (List.range n).map fun k => if k = 0 then V.non else V.int (par k : Int)
def arV (n : Nat) (A : Nat → Option Nat) : List V := (List.range n).map fun k => oV (A k)
def nV (l : List Nat) : List V := l.map fun a => V.int ((a : Nat) : Int)
theorem chV_len {n : Nat} {par : Nat → Nat} : (chV n par).length = n := by simp [chV]
theorem arV_len {n : Nat} {A : Nat → Option Nat} : (arV n A).length = n := by simp [arV]
theorem nV_len {l : List Nat} : (nV l).length = l.length := by simp [nV]
theorem chV_get {n k : Nat} {par : Nat → Nat} (h : k < n) : (chV n par)[k]? = some (if k = 0 then V.non else V.int (par k : Int)) := by simp [chV, h]
theorem arV_get {n k : Nat} {A : Nat → Option Nat} (h : k < n) : (arV n A)[k]? = some (oV (A k)) := by simp [arV, h]
theorem nV_get {l : List Nat} {k a : Nat} (h : l[k]? = some a) : (nV l)[k]? = some (V.int (a : Int)) := by simp [nV, h]
/-- a chart -/
structure Ch (n : Nat) (par : Nat → Nat) : Prop where
  pos : 0 < n
  le : n ≤ 20
  par : ∀ k, 0 < k → par k < k
theorem Ch.sz {n : Nat} {par : Nat → Nat} (c : Ch n par) : n ≤ sizeLine := Nat.le_trans c.le (by decide)
theorem Ch.lt {n m : Nat} {par : Nat → Nat} (c : Ch n par) (h : m ≤ n) : m < sizeLine := Nat.lt_of_le_of_lt (Nat.le_trans h c.le) (by decide)
theorem Ch.pn {n k : Nat} {par : Nat → Nat} (c : Ch n par) (h : k < n) (h0 : 0 < k) : par k < n := Nat.lt_trans (c.par k h0) h
end K89
set_option Elab.async false
set_option linter.all false
set_option maxRecDepth 100000
namespace K89

/-! ### weights: how many posts hang at a post, itself among them -/
def wtF (n : Nat) (par : Nat → Nat) : Nat → Nat → Nat
  | 0, _ => 1
  | f + 1, p => 1 + ((kids n par p).map (wtF n par f)).sum
def wt (n : Nat) (par : Nat → Nat) (p : Nat) : Nat := wtF n par n p
section
variable {n : Nat} {par : Nat → Nat}
theorem kid_gt (hp : ∀ k, 0 < k → par k < k) {p k : Nat} (h : k ∈ kids n par p) : p < k ∧ k < n := by
  obtain ⟨h1, h2, h3⟩ := mem_kids.mp h
  have := hp k h2
  omega
theorem wtF_eq (hp : ∀ k, 0 < k → par k < k) : ∀ (f g p : Nat), n ≤ f + p + 1 → n ≤ g + p + 1 → wtF n par f p = wtF n par g p := by
  intro f
  induction f with
  | zero =>
    intro g p hf hg
    have e : kids n par p = [] := List.eq_nil_iff_forall_not_mem.mpr fun k hk => by have := kid_gt hp hk; omega
    cases g with
    | zero => rfl
    | succ g => simp [wtF, e]
  | succ f ih =>
    intro g p hf hg
    cases g with
    | zero =>
      have e : kids n par p = [] := List.eq_nil_iff_forall_not_mem.mpr fun k hk => by have := kid_gt hp hk; omega
      simp [wtF, e]
    | succ g =>
      show 1 + ((kids n par p).map (wtF n par f)).sum = 1 + ((kids n par p).map (wtF n par g)).sum
      congr 1
      congr 1
      apply List.map_congr_left
      intro k hk
      have hk' := kid_gt hp hk
      exact ih g k (by omega) (by omega)
theorem wt_eq (hp : ∀ k, 0 < k → par k < k) {p : Nat} (h : p < n) : wt n par p = 1 + ((kids n par p).map (wt n par)).sum := by
  have e : wt n par p = wtF n par (n + 1) p := wtF_eq hp n (n + 1) p (by omega) (by omega)
  rw [e]
  rfl
theorem wt_pos (hp : ∀ k, 0 < k → par k < k) {p : Nat} (h : p < n) : 0 < wt n par p := by rw [wt_eq hp h]; omega
/-- what the loop over the posts from above has: the kids above i are counted -/
def wtP (n : Nat) (par : Nat → Nat) (i p : Nat) : Nat := 1 + (((kids n par p).filter fun k => decide (i < k)).map (wt n par)).sum
theorem wtP_start (hp : ∀ k, 0 < k → par k < k) {p : Nat} : wtP n par (n - 1) p = 1 := by
  have e : ((kids n par p).filter fun k => decide (n - 1 < k)) = [] := List.filter_eq_nil_iff.mpr fun k hk => by
    have := kid_gt hp hk
    simp
    omega
  simp [wtP, e]
theorem wtP_done (hp : ∀ k, 0 < k → par k < k) {i p : Nat} (h : p < n) (hi : i ≤ p) : wtP n par i p = wt n par p := by
  have e : ((kids n par p).filter fun k => decide (i < k)) = kids n par p := List.filter_eq_self.mpr fun k hk => by
    have := kid_gt hp hk
    simp
    omega
  rw [wtP, e, wt_eq hp h]
theorem filt_lt (i : Nat) : ∀ m, ((List.range m).filter fun k => decide (i < k)) = (List.range' (i + 1) (m - (i + 1)))
  | 0 => by simp
  | m + 1 => by
    rw [List.range_succ, List.filter_append, filt_lt i m]
    by_cases h : i < m
    · rw [show m + 1 - (i + 1) = (m - (i + 1)) + 1 by omega, List.range'_concat]
      simp [h]
      omega
    · have : m - (i + 1) = 0 := by omega
      have h2 : m + 1 - (i + 1) = 0 := by omega
      simp [h, this, h2]
theorem kids_gt (n : Nat) (par : Nat → Nat) (i p : Nat) : ((kids n par p).filter fun k => decide (i < k)) = (List.range' (i + 1) (n - (i + 1))).filter fun k => decide (0 < k) && decide (par k = p) := by
  rw [kids, List.filter_filter, ← filt_lt, List.filter_filter]
  congr 1
  funext k
  exact Bool.and_comm _ _
theorem wtP_step (hp : ∀ k, 0 < k → par k < k) {i p : Nat} (h0 : 0 < i) (hi : i < n) : wtP n par (i - 1) p = wtP n par i p + if par i = p then wt n par i else 0 := by
  unfold wtP
  rw [kids_gt, kids_gt]
  obtain ⟨j, rfl⟩ : ∃ j, i = j + 1 := ⟨i - 1, by omega⟩
  rw [show j + 1 - 1 + 1 = j + 1 by omega, show n - (j + 1) = (n - (j + 1 + 1)) + 1 by omega, List.range'_succ]
  by_cases e : par (j + 1) = p
  · rw [List.filter_cons_of_pos (by simp [e])]
    simp [e]
    omega
  · rw [List.filter_cons_of_neg (by simp [e])]
    simp [e]
theorem kids_succ (i : Nat) (par : Nat → Nat) (p : Nat) : kids (i + 1) par p = kids i par p ++ if 0 < i ∧ par i = p then [i] else [] := by
  unfold kids
  rw [List.range_succ, List.filter_append]
  congr 1
  by_cases h : 0 < i ∧ par i = p
  · rw [if_pos h]
    simp [h.1, h.2]
  · rw [if_neg h]
    simp only [List.filter_cons, List.filter_nil]
    rw [if_neg]
    simpa using h
end
end K89
set_option Elab.async false
set_option linter.all false
set_option maxRecDepth 100000
set_option maxHeartbeats 1000000
namespace K89
open PySem PySem.Spec PyProof.Rows L2
theorem ifT {c : Bool} {A B : Prop} (h : c = true) (a : A) : if c = true then A else B := by rw [if_pos h]; exact a
theorem ifF {c : Bool} {A B : Prop} (h : c = false) (b : B) : if c = true then A else B := by rw [h, if_neg Bool.false_ne_true]; exact b

/-! ### xs == [], == of equal flat sequences -/
def rEqNil (K : PySem.W.Frag) : R2 := fun x y H Q => ∃ a b xs, x = .ref a ∧ y = .ref b ∧ SqL K H a xs ∧ SqL K H b [] ∧ Q (.bl xs.isEmpty) H
theorem op_eqNil {X : Cx} (hu : X.A.units < cLine) : OpR X (compareOp .Eq) (rEqNil X.K) := by
  intro pins s σ H x y v u Q I rx ry h
  obtain ⟨a, b, xs, rfl, rfl, ha, hb, q⟩ := h
  cases rx
  cases ry
  obtain ⟨is1, r1, p1, _⟩ := I.list ha
  obtain ⟨is2, r2, p2, _⟩ := I.list hb
  cases r2
  cases r1 with
  | nil =>
    refine SeqAt.eq_listAt (e := fun _ => true) p1.isList p2.isList rfl hu (fun j h1 _ => absurd h1 (Nat.not_lt_zero j)) ?_
    exact ⟨.bl true, H, I, rfl, q⟩
  | cons a1 a2 =>
    refine SeqAt.eq_list_lengthsAt p1.isList p2.isList (by simp) hu ?_
    exact ⟨.bl false, H, I, rfl, q⟩
def dV : V → PyData
  | .int i => .int i
  | .bl b => .bool b
  | _ => .none
def Fl (xs : List V) : Prop := ∀ x ∈ xs, x = .non ∨ ∃ i, x = .int i
theorem Fl.dp {K : PySem.W.Frag} {H : Hp} : ∀ {xs : List V}, Fl xs → DpAll K H xs (xs.map dV)
  | [], _ => .nil
  | x :: xs, h => by
    refine .cons ?_ (Fl.dp (xs := xs) fun y hy => h y (List.mem_cons_of_mem _ hy))
    rcases h x List.mem_cons_self with rfl | ⟨i, rfl⟩
    · exact .non
    · exact .int i
theorem lay_dV : ∀ xs : List V, PyData.canLayAll0 (xs.map dV) = true
  | [] => rfl
  | x :: r => by
    have ih := lay_dV r
    cases x <;> simp [PyData.canLayAll0, PyData.canLay0, dV, ih]
theorem dep_dV : ∀ xs : List V, PyData.depthAll (xs.map dV) = 0
  | [] => rfl
  | x :: r => by
    have ih := dep_dV r
    cases x <;> simp [PyData.depthAll, PyData.depth, dV, ih]
theorem shl (xs : List V) : SeqAt.shaped (.list (xs.map dV)) = true := by simp [SeqAt.shaped, PyData.canLay0, PyData.depth, lay_dV, dep_dV]
theorem sht (xs : List V) : SeqAt.shaped (.tuple (xs.map dV)) = true := by simp [SeqAt.shaped, PyData.canLay0, PyData.depth, lay_dV, dep_dV]
theorem eqvs : ∀ xs : List V, PyData.eqvAll (xs.map dV) (xs.map dV) = true
  | [] => rfl
  | x :: r => by
    have ih := eqvs r
    cases x <;> simp [PyData.eqvAll, PyData.eqv, dV, ih]
/-- both hold the same flat items -/
def rEqS (K : PySem.W.Frag) (b : Bool) : R2 := fun x y H Q => ∃ p q xs, x = .ref p ∧ y = .ref q ∧ Fl xs ∧ ((SqL K H p xs ∧ SqL K H q xs) ∨ (SqT K H p xs ∧ SqT K H q xs)) ∧ Q (.bl b) H
theorem op_eqS {X : Cx} (hu : X.A.units + 64 < cLine) : OpR X (compareOp .Eq) (rEqS X.K true) := by
  intro pins s σ H x y v u Q I rx ry h
  obtain ⟨p, q, xs, rfl, rfl, hf, h, k⟩ := h
  refine op_eqD hu pins s σ H _ _ v u Q I rx ry ?_
  rcases h with ⟨h1, h2⟩ | ⟨h1, h2⟩
  · exact ⟨_, _, .lst h1 hf.dp, .lst h2 hf.dp, shl _, shl _, by rw [PyData.eqv, eqvs]; exact k⟩
  · exact ⟨_, _, .tup h1 hf.dp, .tup h2 hf.dp, sht _, sht _, by rw [PyData.eqv, eqvs]; exact k⟩
theorem op_neS {X : Cx} (hu : X.A.units + 64 < cLine) : OpR X (compareOp .NotEq) (rEqS X.K false) := by
  intro pins s σ H x y v u Q I rx ry h
  obtain ⟨p, q, xs, rfl, rfl, hf, h, k⟩ := h
  refine op_neD hu pins s σ H _ _ v u Q I rx ry ?_
  rcases h with ⟨h1, h2⟩ | ⟨h1, h2⟩
  · exact ⟨_, _, .lst h1 hf.dp, .lst h2 hf.dp, shl _, shl _, by rw [PyData.eqv, eqvs]; exact k⟩
  · exact ⟨_, _, .tup h1 hf.dp, .tup h2 hf.dp, sht _, sht _, by rw [PyData.eqv, eqvs]; exact k⟩
/-- a tuple that is not empty against () -/
def rEqNilT (K : PySem.W.Frag) : R2 := fun x y H Q => ∃ p q xs, x = .ref p ∧ y = .ref q ∧ Fl xs ∧ xs ≠ [] ∧ SqT K H p xs ∧ SqT K H q [] ∧ Q (.bl false) H
theorem op_eqNilT {X : Cx} (hu : X.A.units + 64 < cLine) : OpR X (compareOp .Eq) (rEqNilT X.K) := by
  intro pins s σ H x y v u Q I rx ry h
  obtain ⟨p, q, xs, rfl, rfl, hf, hn, h1, h2, k⟩ := h
  refine op_eqD hu pins s σ H _ _ v u Q I rx ry ?_
  refine ⟨_, _, .tup h1 hf.dp, .tup h2 .nil, sht _, by decide, ?_⟩
  cases xs with
  | nil => exact absurd rfl hn
  | cons a b =>
    rw [show PyData.eqv (.tuple ((a :: b).map dV)) (.tuple []) = false by simp [PyData.eqv, PyData.eqvAll]]
    exact k
/-- an attribute as a target -/
def gFld (K : PySem.W.Frag) (ta : TE) (f : Str) : TG := fun y σ H Q => ta σ H fun x H2 => ∃ a C dx fs, x = .ref a ∧ H2 a = some (.ins C dx fs) ∧ Cls K C ∧ NoAttr K C f ∧ fs.length < 1000 ∧ Q σ (upd H2 a (.ins C dx (putF f y fs)))
theorem pg_fld {X : Cx} {o : Expr} {f : Str} {pos : Pos} {ta : TE} (ha : PE X o ta) : PG X (.Attribute o f pos) (gFld X.K ta f) := by
  refine ⟨fun pins s σ H v u Q I r h => ?_⟩
  refine PySem.W.kas_attr (thn (ha.run pins s σ H _ I h) fun ov s2 ⟨x, H2, I2, rx, a, C, dx, fs, ex, ea, c, n, l, q2⟩ => ?_)
  subst ex
  obtain rfl : ov = Value.ref a := rx
  exact setattr_ok I2 ea c n l r fun s3 I3 => ⟨σ, _, I3, q2⟩
theorem fl_ar {n : Nat} {A : Nat → Option Nat} : Fl (arV n A) := fun x hx => by
  simp only [arV, List.mem_map] at hx
  obtain ⟨k, _, rfl⟩ := hx
  cases A k with
  | none => exact .inl rfl
  | some a => exact .inr ⟨_, rfl⟩
theorem fl_ch {n : Nat} {par : Nat → Nat} : Fl (chV n par) := fun x hx => by
  simp only [chV, List.mem_map] at hx
  obtain ⟨k, _, rfl⟩ := hx
  split
  · exact .inl rfl
  · exact .inr ⟨_, rfl⟩
theorem fl_n {l : List Nat} : Fl (nV l) := fun x hx => by
  simp only [nV, List.mem_map] at hx
  obtain ⟨k, _, rfl⟩ := hx
  exact .inr ⟨_, rfl⟩
theorem ch_ne {n : Nat} {par : Nat → Nat} (h : 0 < n) : chV n par ≠ [] := fun e => by
  have z := chV_len (n := n) (par := par)
  rw [e] at z
  simp at z
  omega
/-! ### tests known -/
section
variable {K : PySem.W.Frag} {H : Hp} {Q : VK}
theorem atn {xs : List V} {k : Nat} {v : V} (h : xs[k]? = some v) : atI xs (k : Int) = some v := atI_nat h
theorem at_ch {n k : Nat} {par : Nat → Nat} (h : k < n) (h0 : 0 < k) : atI (chV n par) (k : Int) = some (.int (par k : Int)) := by
  refine atI_nat ?_
  rw [chV_get h, if_neg (by omega)]
theorem at_ch0 {n : Nat} {par : Nat → Nat} (h : 0 < n) : atI (chV n par) (0 : Int) = some .non := at_of (j := 0) rfl (by rw [chV_get h, if_pos rfl])
theorem at_ar {n k : Nat} {A : Nat → Option Nat} (h : k < n) : atI (arV n A) (k : Int) = some (oV (A k)) := atI_nat (arV_get h)
theorem oV_ne {A : Nat → Option Nat} {k a : Nat} (h : A k = some a) : oV (A k) = .int (a : Int) := by rw [h]; rfl
end
end K89
namespace K89
open PySem PySem.Spec PyProof.Rows L2
theorem yen {xs : List V} {i : Nat} {H H' : Hp} {x : V} (h : YPair (fun i => some (.int (i : Nat))) (fun i => xs[i]?) i H x H') : ∃ T y, x = .ref T ∧ H T = none ∧ H' = upd H T (.tup [.int (i : Nat), y]) ∧ xs[i]? = some y := by
  obtain ⟨T, a, b, h1, h2, h3, h4, h5⟩ := h
  cases h4
  exact ⟨T, b, h1, h2, h3, h5⟩
end K89
namespace K89
open PySem PySem.Spec PyProof.Rows L2
/-- a dict comprehension over a walk -/
theorem dc_it {J : It} {n : Nat} {G : Hp → Prop} {Y : Nat → Hp → V → Hp → Prop} (w : Walk J n G Y) {g : TG} {tt : TT} {tk tv : TE} {vs : List Nat} {σ : L2.St} {H1 : Hp} {D : Addr} {Qd : Hp → Prop} (Pv : Nat → Hp → Prop) (h0 : Pv 0 (upd H1 D (.dK []))) (hG : ∀ i H, i ≤ n → Pv i H → G H)
    (turn : ∀ i x H H', i < n → Pv i H → Y i H x H' → g x (wipe σ vs) H' fun σ2 H2 => wipe σ2 vs = wipe σ vs ∧ tt σ2 H2 fun b H3 =>
      if b = true then tk σ2 H3 fun y H4 => tv σ2 H4 fun z H5 => ∃ kvs k, y = kV k ∧ H5 D = some (.dK kvs) ∧ kvs.length < sizeLine ∧ Pv (i + 1) (upd H5 D (.dK (putK kvs k z))) else Pv (i + 1) H3) (hd : ∀ H, Pv n H → Qd H) :
    ∃ W : Nat → Nat → Hp → Prop, (∃ m, W 0 m (upd H1 D (.dK []))) ∧ ∀ i m H, W i m H →
      (J.stop i H ∧ Qd H) ∨ (J.go i H ∧ ∃ Nx : Hp → Prop, (∀ H', Nx H' → ∃ m', m' < m ∧ W (i + 1) m' H') ∧ ∀ x H', J.yld i H x H' → g x (wipe σ vs) H' fun σ2 H2 => wipe σ2 vs = wipe σ vs ∧ tt σ2 H2 fun b H3 =>
        if b = true then tk σ2 H3 fun y H4 => tv σ2 H4 fun z H5 => ∃ kvs k, y = kV k ∧ H5 D = some (.dK kvs) ∧ kvs.length < sizeLine ∧ Nx (upd H5 D (.dK (putK kvs k z))) else Nx H3) :=
  ⟨fun i m H => m = n - i ∧ i ≤ n ∧ Pv i H, ⟨n, by simp, Nat.zero_le _, h0⟩, fun i m H ⟨e, hi, p⟩ => by
    subst e
    rcases Nat.lt_or_ge i n with hlt | hge
    · exact .inr ⟨w.goes i H hlt (hG i H hi p), Pv (i + 1), fun H' p' => ⟨n - (i + 1), by omega, rfl, hlt, p'⟩, fun x H' y => turn i x H H' hlt p (w.yields i H x H' hlt (hG i H hi p) y)⟩
    · obtain rfl : i = n := by omega
      exact .inl ⟨w.stops H (hG i H hi p), hd H p⟩⟩
theorem fl_all {xs : List V} (h : Fl xs) : xs.all flatV = true := List.all_eq_true.mpr fun x hx => by
  rcases h x hx with rfl | ⟨i, rfl⟩ <;> rfl
theorem in_ar {n x k : Nat} {A : Nat → Option Nat} (h : k < n) (e : A k = some x) : inV (.int (x : Int)) (arV n A) = true := by
  unfold inV
  refine List.any_eq_true.mpr ⟨oV (A k), ?_, ?_⟩
  · exact List.mem_map.mpr ⟨k, List.mem_range.mpr h, rfl⟩
  · rw [e]
    show ((x : Int) == (x : Int)) = true
    simp
theorem nin_ar {n x : Nat} {A : Nat → Option Nat} (h : ∀ k, k < n → A k ≠ some x) : inV (.int (x : Int)) (arV n A) = false := by
  cases e : inV (.int (x : Int)) (arV n A) with
  | false => rfl
  | true =>
    obtain ⟨y, hy, hq⟩ := List.any_eq_true.mp (show ((arV n A).any fun y => eqV y (.int (x : Int))) = true from e)
    obtain ⟨k, hk, rfl⟩ := List.mem_map.mp hy
    have hk' := List.mem_range.mp hk
    cases e2 : A k with
    | none => rw [e2] at hq; cases hq
    | some z =>
      rw [e2] at hq
      have hz : ((z : Int) == (x : Int)) = true := hq
      have : z = x := by have := eq_of_beq hz; omega
      exact absurd (by rw [e2, this]) (h k hk')
theorem in_n {l : List Nat} {x : Nat} : inV (.int (x : Int)) (nV l) = decide (x ∈ l) := by
  unfold inV nV
  rw [Bool.eq_iff_iff]
  simp only [List.any_eq_true, List.mem_map, decide_eq_true_eq]
  constructor
  · rintro ⟨y, ⟨a, ha, rfl⟩, hq⟩
    have hz : (((a : Nat) : Int) == (x : Int)) = true := hq
    have : a = x := by have := eq_of_beq hz; omega
    rwa [← this]
  · intro hx
    exact ⟨_, ⟨x, hx, rfl⟩, by show (((x : Nat) : Int) == (x : Int)) = true; simp⟩
end K89
namespace K89
open PySem PySem.Spec PyProof.Rows L2
theorem _root_.L2.Same.put {H H' : Hp} {p : Addr} {o : HO} (a : Same H H') (h : H p = none) : Same H (upd H' p o) := fun b u e => by
  rw [upd_ne (ne_of_none e h)]
  exact a b u e
theorem rep_snoc {α : Type} {n : Nat} {x : α} : List.replicate n x ++ [x] = List.replicate (n + 1) x := (List.replicate_succ' ..).symm
theorem vi_ne {a b : Nat} (h : a ≠ b) : decide (V.int (a : Int) = V.int (b : Int)) = false := decide_eq_false fun e => h (by have := V.int.inj e; omega)
theorem vi_eq {a b : Nat} (h : a = b) : decide (V.int (a : Int) = V.int (b : Int)) = true := decide_eq_true (by rw [h])
theorem vi_non {a : Int} : decide (V.int a = V.non) = false := decide_eq_false fun e => nomatch e
theorem sl20 {m : Nat} (h : m ≤ 20) : m < sizeLine := Nat.lt_of_le_of_lt h (by decide)
end K89
namespace K89
open PySem PySem.Spec PyProof.Rows L2
theorem nn_int {a : Int} : (!decide (V.int a = V.non)) = true := by rw [vi_non]; rfl
theorem nn_non : (!decide (V.non = V.non)) = false := by simp
end K89
namespace K89
open PySem PySem.Spec PyProof.Rows L2
theorem putK_le {κ : Type} [DecidableEq κ] (c : List (κ × V)) (k : κ) (x : V) : (putK c k x).length ≤ c.length + 1 := by
  unfold putK
  split
  · rw [List.length_map]; omega
  · simp
end K89
namespace K89
open PySem PySem.Spec PyProof.Rows L2
/-- an arrangement: a tuple, its object known to have no dict -/
def AT (H : Hp) (v : Addr) (n : Nat) (A : Nat → Option Nat) : Prop := ∃ ob : Obj, ob.dict = none ∧ H v = some (.frz ob (.tup (arV n A)))
theorem AT.mono {H H' : Hp} {v : Addr} {n : Nat} {A : Nat → Option Nat} (h : AT H v n A) (s : Same H H') : AT H' v n A := by
  obtain ⟨ob, h1, h2⟩ := h
  exact ⟨ob, h1, s _ _ h2⟩
theorem AT.sq {K : PySem.W.Frag} {H : Hp} {v : Addr} {n : Nat} {A : Nat → Option Nat} (h : AT H v n A) : SqT K H v (arV n A) := by
  obtain ⟨ob, _, h2⟩ := h
  exact .inl (.inr ⟨ob, h2⟩)
theorem AT.ne {H : Hp} {v p : Addr} {n : Nat} {A : Nat → Option Nat} (h : AT H v n A) (np : H p = none) : v ≠ p := by
  obtain ⟨ob, _, h2⟩ := h
  exact ne_of_none h2 np
theorem AT.ty {K : PySem.W.Frag} {H : Hp} {v : Addr} {n : Nat} {A : Nat → Option Nat} (h : AT H v n A) : TyX K H (.ref v) (.type "tuple") := by
  obtain ⟨ob, _, h2⟩ := h
  exact .fTuple h2
/-- tuple(xs), xs a list: the new tuple's object is known -/
def rTupleF (K : PySem.W.Frag) : List V → Hp → VK → Prop := fun xs H Q => ∃ p ys, xs = [.ref p] ∧ SqL K H p ys ∧ ∀ (l : Addr) (ob : Obj), H l = none → ob.dict = none → Q (.ref l) (upd H l (.frz ob (.tup ys)))
theorem call_tupleF {X : Cx} : CallR X (.type "tuple") (rTupleF X.K) := by
  intro pins s σ H xs us Q I r h
  obtain ⟨p, ys, rfl, hq, q⟩ := h
  obtain ⟨u, rfl, rx⟩ := vals1 r
  cases rx
  obtain ⟨its, r', pl, hz⟩ := I.list hq
  have hlen := r'.length
  refine call_tuple_list pl.isList (fun h' kp => ?_) (by simp only [List.size_toArray] <;> omega)
  have I1 : Inv X pins σ H { s with heap := h' } := I.kept (t' := s.toks) kp
  have I2 : Inv X pins σ (upd H h'.objs.size (.frz { cls := .type "tuple", data := .seq its.toArray } (.tup ys))) { s with heap := h'.push { cls := .type "tuple", data := .seq its.toArray } } :=
    I1.laid (t' := s.toks) (fun b o e => Heap.get?_push_of_some _ e) (Nat.le_refl _) ⟨Heap.get?_push_size _ rfl, hz, its, r', IsTup.new _ _⟩
  exact ⟨.ref h'.objs.size, _, I2, rfl, q _ _ (I1.hok.fresh (Nat.le_refl _)) rfl⟩
end K89
set_option Elab.async false
set_option linter.all false
set_option maxRecDepth 100000
set_option maxHeartbeats 1000000
namespace K89
open PySem PySem.Spec PyProof.Rows L2
theorem dI_t {a b : Int} (h : a = b) : decide (V.int a = V.int b) = true := decide_eq_true (by rw [h])
theorem dI_f {a b : Int} (h : a ≠ b) : decide (V.int a = V.int b) = false := decide_eq_false fun e => h (V.int.inj e)
theorem nI_t {a b : Int} (h : a ≠ b) : (!decide (V.int a = V.int b)) = true := by rw [dI_f h]; rfl
theorem nI_f {a b : Int} (h : a = b) : (!decide (V.int a = V.int b)) = false := by rw [dI_t h]; rfl
theorem ixN_nat {n k : Nat} (h : k < n) : ixN n (k : Int) = some k := by
  unfold ixN
  rw [if_pos (Int.natCast_nonneg k), if_pos (by omega), Int.toNat_natCast]
/-! ### trees -/
def trF (c b : Addr) : List (Str × V) := putF "below" (.ref b) (putF "above" (.ref c) [])
theorem ab_ : ¬ (("above" : Str) = "below") := by decide +kernel
theorem trF_above {c b : Addr} : (trF c b).lookup ("above" : Str) = some (.ref c) := by
  unfold trF
  rw [lookup_putF, if_neg ab_, lookup_putF, if_pos rfl]
theorem trF_below {c b : Addr} : (trF c b).lookup ("below" : Str) = some (.ref b) := by
  unfold trF
  rw [lookup_putF, if_pos rfl]
theorem trF_no {c b : Addr} {m : Str} (h1 : ¬ m = "below") (h2 : ¬ m = "above") : (trF c b).lookup m = none := by
  unfold trF
  rw [lookup_putF, if_neg h1, lookup_putF, if_neg h2]
  rfl
/-- a tree stands at x -/
def TreeAt (C : Addr) (H : Hp) (x c : Addr) (n : Nat) (par : Nat → Nat) : Prop :=
  ∃ (dx b : Addr) (ls : List Addr), H x = some (.ins C dx (trF c b)) ∧ H c = some (.tup (chV n par)) ∧ Ch n par ∧ H b = some (.lst (ls.map V.ref)) ∧ ls.length = n ∧ ∀ k l, ls[k]? = some l → H l = some (.lst (nV (kids n par k)))
theorem TreeAt.mono {C : Addr} {H H' : Hp} {x c : Addr} {n : Nat} {par : Nat → Nat} (s : Same H H') (t : TreeAt C H x c n par) : TreeAt C H' x c n par := by
  obtain ⟨dx, b, ls, h1, h2, h3, h4, h5, h6⟩ := t
  exact ⟨dx, b, ls, s _ _ h1, s _ _ h2, h3, s _ _ h4, h5, fun k l e => s _ _ (h6 k l e)⟩
theorem TreeAt.ch {C : Addr} {H : Hp} {x c : Addr} {n : Nat} {par : Nat → Nat} (t : TreeAt C H x c n par) : Ch n par := by
  obtain ⟨dx, b, ls, h1, h2, h3, _⟩ := t
  exact h3
theorem nV_app {a b : List Nat} : nV (a ++ b) = nV a ++ nV b := List.map_append
theorem nV_one {a : Nat} : nV [a] = [V.int (a : Int)] := rfl
theorem nV_rev {a : List Nat} : (nV a).reverse = nV a.reverse := (List.map_reverse ..).symm
end K89
namespace K89
open PySem PySem.Spec PyProof.Rows L2
def rNN : R2 := fun x y H Q => y = .non ∧ Q (.bl (!decide (x = .non))) H
theorem op_nn {X : Cx} : OpR X (compareOp .IsNot) rNN := op_notN
def rNi : R2 := fun x y H Q => y = .non ∧ Q (.bl (decide (x = .non))) H
theorem op_ni {X : Cx} : OpR X (compareOp .Is) rNi := op_isN
/-- the pair that stands at x -/
def kOf (H : Hp) (x : V) : Int × Int := match x with
  | .ref t => match H t with
    | some (.tup [.int a, .int b]) => (a, b)
    | _ => (0, 0)
  | _ => (0, 0)
theorem kOf_at {H : Hp} {t : Addr} {a b : Int} (h : H t = some (.tup [.int a, .int b])) : kOf H (.ref t) = (a, b) := by
  simp only [kOf, h]
theorem arV_set {n k : Nat} {A : Fn} {x : Option Nat} (h : k < n) : (arV n A).set k (oV x) = arV n (put1 A k x) := by
  refine List.ext_getElem? fun j => ?_
  rw [List.getElem?_set, arV_len]
  by_cases hj : j < n
  · by_cases e : k = j
    · subst e
      rw [if_pos rfl, if_pos h, arV_get h, put1_same]
    · rw [if_neg e, arV_get hj, arV_get hj, put1_ne (Ne.symm e)]
  · have e1 : (arV n A)[j]? = none := List.getElem?_eq_none (by rw [arV_len]; omega)
    have e2 : (arV n (put1 A k x))[j]? = none := List.getElem?_eq_none (by rw [arV_len]; omega)
    rw [e1, e2, if_neg (by omega)]
/-- a list that is known by its items' pairs -/
def PairsAt (H : Hp) (hs : List (Addr × Nat × Nat)) : Prop := ∀ q ∈ hs, H q.1 = some (.tup [.int (q.2.1 : Int), .int (q.2.2 : Int)])
def pV (hs : List (Addr × Nat × Nat)) : List V := hs.map fun q => V.ref q.1
theorem kids_le {n : Nat} {par : Nat → Nat} {p : Nat} : (kids n par p).length ≤ n := by
  have := List.length_filter_le (fun k => decide (0 < k) && decide (par k = p)) (List.range n)
  rw [List.length_range] at this
  exact this
end K89
namespace K89
open PySem PySem.Spec PyProof.Rows L2
/-- all but what stands at u -/
def drop1 (H : Hp) (u : Addr) : Hp := fun b => if b = u then none else H b
theorem drop_at {H : Hp} {u : Addr} : drop1 H u u = none := by unfold drop1; rw [if_pos rfl]
theorem drop_ne {H : Hp} {u b : Addr} (h : b ≠ u) : drop1 H u b = H b := by unfold drop1; rw [if_neg h]
theorem drop_same {H : Hp} {u : Addr} : Same (drop1 H u) H := fun b o e => by
  by_cases h : b = u
  · rw [h, drop_at] at e; cases e
  · rwa [drop_ne h] at e
theorem to_drop {H1 H : Hp} {u : Addr} (s : Same H1 H) (nu : H1 u = none) : Same H1 (drop1 H u) := fun b o e => by
  rw [drop_ne (ne_of_none e nu)]
  exact s b o e
theorem drop_upd {H : Hp} {u : Addr} {o : HO} : drop1 (upd H u o) u = drop1 H u := by
  funext b
  unfold drop1
  split
  · rfl
  · next h => exact upd_ne h
end K89
set_option Elab.async false
set_option linter.all false
set_option maxRecDepth 100000
namespace K89
/-- what sorting gives, known -/
theorem sort_uniq {is : List Int} {l1 l2 : List Nat} (h : is.Perm (l1.map fun a => ((a : Nat) : Int))) (hs : is.Pairwise (· ≤ ·)) (hp : l2.Perm l1) (h2 : l2.Pairwise (· < ·)) : is = l2.map fun a => ((a : Nat) : Int) := by
  have p : is.Perm (l2.map fun a => ((a : Nat) : Int)) := h.trans (hp.symm.map _)
  refine List.Perm.eq_of_pairwise (le := fun a b => a ≤ b) (fun a b _ _ h1 h2 => Int.le_antisymm h1 h2) hs ?_ p
  refine List.pairwise_map.mpr (h2.imp fun h => ?_)
  omega
theorem sort_uniqLe {is : List Int} {l1 l2 : List Nat} (h : is.Perm (l1.map fun a => ((a : Nat) : Int))) (hs : is.Pairwise (· ≤ ·)) (hp : l2.Perm l1) (h2 : l2.Pairwise (· ≤ ·)) : is = l2.map fun a => ((a : Nat) : Int) := by
  have p : is.Perm (l2.map fun a => ((a : Nat) : Int)) := h.trans (hp.symm.map _)
  refine List.Perm.eq_of_pairwise (le := fun a b => a ≤ b) (fun a b _ _ h1 h2 => Int.le_antisymm h1 h2) hs ?_ p
  refine List.pairwise_map.mpr (h2.imp fun h => ?_)
  omega
/-- the row while join_one writes: above are the new ones -/
def mix (A B : Fn) (l : List Nat) : Fn := fun k => if k ∈ l then B k else A k
theorem mix_nil {A B : Fn} : mix A B [] = A := by funext k; simp [mix]
theorem mix_snoc {A B : Fn} {l : List Nat} {k : Nat} : put1 (mix A B l) k (B k) = mix A B (l ++ [k]) := by
  funext j
  unfold put1 mix
  by_cases h : j = k
  · subst h
    simp
  · simp [h]
theorem mix_all {A B : Fn} {l : List Nat} (h : ∀ k, k ∉ l → A k = B k) : mix A B l = B := by
  funext j
  unfold mix
  split
  · rfl
  · next h' => exact h j h'
theorem filterMap_some {A : Fn} : ∀ {l : List Nat}, (∀ k ∈ l, ∃ y, A k = some y) → l.filterMap A = l.map fun k => (A k).getD 0
  | [], _ => rfl
  | k :: l, h => by
    obtain ⟨y, e⟩ := h k List.mem_cons_self
    rw [List.filterMap_cons, e, List.map_cons, e, filterMap_some fun j hj => h j (List.mem_cons_of_mem _ hj)]
    rfl
section
variable {n : Nat} {par : Nat → Nat} {A B : Fn}
/-- whom reduced_arrangement has placed -/
def sub (B : Fn) (l : List Nat) : Fn := fun k => match B k with
  | some y => if y ∈ l then some y else none
  | none => none
theorem sub_nil : sub B [] = fun _ => none := by
  funext k
  unfold sub
  split <;> simp
theorem sub_snoc {l : List Nat} {y k : Nat} (inj : Inj n B) (hk : k < n) (e : B k = some y) (hy : y ∉ l) {j : Nat} (hj : j < n) : put1 (sub B l) k (some y) j = sub B (l ++ [y]) j := by
  unfold put1
  by_cases h : j = k
  · subst h
    simp [sub, e]
  · rw [if_neg h]
    unfold sub
    cases ej : B j with
    | none => rfl
    | some z =>
      have hz : z ≠ y := fun q => h (inj j k y hj hk (by rw [ej, q]) e)
      simp [hz]
theorem sub_all {l : List Nat} {k : Nat} (h : ∀ y, B k = some y → y ∈ l) : sub B l k = B k := by
  unfold sub
  cases e : B k with
  | none => rfl
  | some y => simp [h y e]
/-- the first free post on the way from the head to where y stood -/
theorem free_first (hp : ∀ k, 0 < k → par k < k) (aB : Arr n par B) {l : List Nat} {y k j : Nat} (hk : k < n) (e : B k = some y) (hu : k ∈ ups par j) (hy : y ∉ l) (hl : ∀ z k', k' < n → B k' = some z → z < y → z ∈ l) :
    ∃ r, (path par j).filter (fun p => decide (sub B l p = none)) = k :: r := by
  obtain ⟨post, hs, _⟩ := path_split hp hu
  rw [hs, List.filter_append, path_self hp, List.filter_append]
  have e1 : ((ups par k).tail.reverse.filter fun p => decide (sub B l p = none)) = [] := List.filter_eq_nil_iff.mpr fun p hp' => by
    have hp2 : p ∈ (ups par k).tail := List.mem_reverse.mp hp'
    have hlt := ups_tail_lt hp p hp2
    obtain ⟨z, e2, _, h3⟩ := aB.above hp hk e (show p ∈ ups par k by rw [ups_head hp]; exact List.mem_cons_of_mem _ hp2)
    have h4 := h3 (by omega)
    have := hl z p (by omega) e2 h4
    simp [sub, e2, this]
  have e2 : ([k].filter fun p => decide (sub B l p = none)) = [k] := by simp [sub, e, hy]
  rw [e1, e2]
  exact ⟨_, rfl⟩
end
end K89
namespace K89
theorem sort_nat {is : List Int} {xs : List Nat} (h : is.Perm (xs.map fun a => ((a : Nat) : Int))) (hs : is.Pairwise (· ≤ ·)) : ∃ S : List Nat, is = S.map (fun a => ((a : Nat) : Int)) ∧ S.Perm xs ∧ S.Pairwise (· ≤ ·) := by
  have e : is = (is.map Int.toNat).map fun a => ((a : Nat) : Int) := by
    rw [List.map_map]
    conv => lhs; rw [← List.map_id is]
    refine List.map_congr_left fun a ha => ?_
    obtain ⟨b, _, rfl⟩ := List.mem_map.mp (h.subset ha)
    simp
  refine ⟨is.map Int.toNat, e, ?_, ?_⟩
  · have := h.map Int.toNat
    rw [List.map_map] at this
    have e2 : xs.map (Int.toNat ∘ fun a => ((a : Nat) : Int)) = xs := by
      conv => rhs; rw [← List.map_id xs]
      refine List.map_congr_left fun a _ => ?_
      simp
    rwa [e2] at this
  · exact List.pairwise_map.mpr (hs.imp fun h => by omega)
theorem lt_of_le_nd {S : List Nat} (h : S.Pairwise (· ≤ ·)) (nd : S.Nodup) : S.Pairwise (· < ·) := by
  have := h.and nd
  exact this.imp fun ⟨a, b⟩ => by omega
theorem take_lt {S : List Nat} (h : S.Pairwise (· < ·)) {i : Nat} (hi : i < S.length) {z : Nat} (hz : z ∈ S) : z < S[i] ↔ z ∈ S.take i := by
  have mono : ∀ (a b : Nat) (ha : a < S.length) (hb : b < S.length), a < b → S[a] < S[b] := fun a b ha hb hab => List.pairwise_iff_getElem.mp h a b ha hb hab
  constructor
  · intro hlt
    obtain ⟨j, hj, rfl⟩ := List.mem_iff_getElem.mp hz
    have : j < i := by
      rcases Nat.lt_or_ge j i with h1 | h1
      · exact h1
      · rcases Nat.eq_or_lt_of_le h1 with h2 | h2
        · subst h2; omega
        · have := mono i j hi hj h2; omega
    exact List.mem_take_iff_getElem.mpr ⟨j, by omega, rfl⟩
  · intro hm
    obtain ⟨j, hj, rfl⟩ := List.mem_take_iff_getElem.mp hm
    exact mono j i (by omega) hi (by omega)
end K89
set_option Elab.async false
set_option linter.all false
set_option maxRecDepth 100000
set_option maxHeartbeats 1000000
namespace K89
open PySem PySem.Spec PyProof.Rows L2
theorem arV_congr {n : Nat} {A B : Fn} (h : ∀ k, k < n → A k = B k) : arV n A = arV n B := List.map_congr_left fun k hk => by rw [h k (List.mem_range.mp hk)]
theorem ar_first {n q x : Nat} {A : Fn} (inj : Inj n A) (hq : q < n) (e : A q = some x) : ∀ (m : Nat) (z' : V), m < q → (arV n A)[m]? = some z' → eqV z' (.int (x : Int)) = false := by
  intro m z hm hz
  rw [arV_get (by omega)] at hz
  cases hz
  cases e2 : A m with
  | none => rfl
  | some y =>
    show ((y : Int) == (x : Int)) = false
    refine beq_eq_false_iff_ne.mpr fun h => ?_
    have hy : y = x := by omega
    rw [hy] at e2
    have := inj m q x (by omega) hq e2 e
    omega
theorem cut_last {xs : List V} {v : V} : cutV (xs ++ [v]) none (some (-1)) = xs := by
  unfold cutV
  have e1 : HT.sIx (xs ++ [v]).length 0 none = 0 := rfl
  have e2 : HT.sIx (xs ++ [v]).length (xs ++ [v]).length (some (-1)) = xs.length := by
    show (if (-1 : Int) < 0 then ((-1 : Int) + ((xs ++ [v]).length : Int)).toNat else min (-1 : Int).toNat (xs ++ [v]).length) = xs.length
    rw [if_pos (by decide), List.length_append]
    simp
    omega
  rw [e1, e2, List.drop_zero, Nat.sub_zero, List.take_append_of_le_length (Nat.le_refl _), List.take_length]
theorem nV_int {l : List Nat} : nV l = (l.map fun a => ((a : Nat) : Int)).map V.int := by rw [nV, List.map_map]; rfl
end K89
set_option Elab.async false
set_option linter.all false
set_option maxRecDepth 100000
set_option maxHeartbeats 1000000
namespace K89
open PySem PySem.Spec PyProof.Rows L2
/-! ### defs with *args -/
def CalR (P : Program) (w : World) (K : PySem.W.Frag) (mg : Str → Option Value) (base : Heap) (k : Nat) (x : Str) (sp : Sp) : Prop :=
  ∃ f, mg x = some (.ref f) ∧ PySem.W.keepIn K (.ref f) = true ∧ FnR P w K mg base CX0 k f sp
def CalMR (P : Program) (w : World) (K : PySem.W.Frag) (mg : Str → Option Value) (base : Heap) (k : Nat) (C : Addr) (m : Str) (sp : Sp) : Prop :=
  Cls K C ∧ ∃ f, Meth K C m f ∧ FnR P w K mg base CX0 k f sp
section
variable {P : Program} {w : World} {K : PySem.W.Frag} {mg : Str → Option Value} {base : Heap} {k : Nat} {x m qual pv : Str} {st : Stmt} {C : Addr} {N ps : List Str} {sp sp' : Sp}
theorem CalR.imp (c : CalR P w K mg base k x sp) (h : ∀ vs H Q E, sp' vs H Q E → sp vs H Q E) : CalR P w K mg base k x sp' := by
  obtain ⟨f, m, kp, F⟩ := c
  exact ⟨f, m, kp, F.imp h⟩
theorem CalMR.imp (c : CalMR P w K mg base k C m sp) (h : ∀ vs H Q E, sp' vs H Q E → sp vs H Q E) : CalMR P w K mg base k C m sp' := by
  obtain ⟨cc, f, m, F⟩ := c
  exact ⟨cc, f, m, F.imp h⟩
abbrev HS (st : Stmt) (x qual : Str) (ps : List Str) (pv : Str) : Prop := ∀ (kV doc pm : Value) (an : Option Addr) (cdv ct : Value) (us rest : List Value), us.length = ps.length →
  bindArgs (PySem.W.fnOf x qual (defArgs st) (defBody st) (defScope st) .none kV doc pm an cdv ct) ⟨us ++ rest, []⟩ = (newTuple rest >>= fun t => pure (ps.zip us ++ [(pv, t)]))
def Star (n : Nat) (sp : Sp) : Sp := fun vs H Q E => ∃ ws rest, vs = ws ++ rest ∧ ws.length = n ∧ rest.length ≤ sizeLine ∧ ∀ p, H p = Option.none → sp (ws ++ [V.ref p]) (upd H p (.tup rest)) Q E
theorem fun_star {f : Addr} {fd : FuncData} (F : Fun K x qual st f fd) (S : FnScope N (ps ++ [pv]) (defScope st)) (hb : HS st x qual ps pv) (hbody : HBody P w K mg base k qual st N sp) : FnR P w K mg base CX0 (k + 1) f (Star ps.length sp) := by
  obtain ⟨oc, od, kV, doc, pm, an, cdv, ct, osl, rfl, lk, hcd⟩ := F.ex
  refine StX.fn_star lk hcd S StX.cxUp_none (hb kV doc pm an cdv ct) fun A outer s H vs Q E hr hsp => ?_
  obtain ⟨t, h, q⟩ := hbody f cdv A outer s H vs Q E hr hsp
  exact ⟨t, h.nox, q⟩
theorem Dg.star (D : Dg K mg x st) (S : FnScope N (ps ++ [pv]) (defScope st)) (hb : HS st x x ps pv) (hbody : HBody P w K mg base k x st N sp) : CalR P w K mg base (k + 1) x (Star ps.length sp) := by
  obtain ⟨f, fd, m, F⟩ := D
  exact ⟨f, m, F.kp, fun_star F S hb hbody⟩
theorem Dm.star (D : Dm K C m qual st) (S : FnScope N (ps ++ [pv]) (defScope st)) (hb : HS st m qual ps pv) (hbody : HBody P w K mg base k qual st N sp) : CalMR P w K mg base (k + 1) C m (Star ps.length sp) := by
  obtain ⟨c, f, fd, m, F⟩ := D
  exact ⟨c, f, m, fun_star F S hb hbody⟩
end
def tCallR (sp : Sp) (t : TA) : TE := fun σ H Q => t σ H fun vs H1 => sp vs H1 Q E0
section
variable {X : Cx} {k : Nat} {C : Addr} {sp : Sp} {x m : Str} {p pos apos : Pos} {e o : Expr} {es : List Expr} {t : TA} {ta : TE}
theorem pe_calR (c : CalR X.prog X.w X.K X.mg X.base k x sp) (hr : Room k X.A) (hg : Gl X x) (ha : PA X (e :: es) t)
    (hdb : (x == ("__debug__" : Str)) = false := by decide) (he : starEach (e :: es) X.env = (false, eval e X.env) :: starEach es X.env := by rfl) (hpl : (backTo pos (starEach es X.env)).any (·.1) = false := by rfl) :
    PE X (.Call (.Name x p) (e :: es) [] pos) (tCallR sp t) := by
  obtain ⟨f, hm, hk, F⟩ := c
  refine ⟨fun pins s σ H Q I h => ?_⟩
  refine wpAny_Call_Name_kw (ld_glob I hg hm ?_ hdb)
  exact PySem.W.callWith_K (h₀ := X.base) I.ok.mod.kin hk (thn (ha.run pos pins s σ H _ I h) fun us s1 ⟨vs, H1, I1, r, q⟩ => ⟨I1.kIn, wpAny_call (run_fnR F hr pass0 I1 r q)⟩) he hpl
theorem pe_calS (c : CalR X.prog X.w X.K X.mg X.base k x sp) (hr : Room k X.A) (hg : Gl X x) (ha : PA X (e :: es) t)
    (hdb : (x == ("__debug__" : Str)) = false := by decide) (he : starEach (e :: es) X.env = (false, eval e X.env) :: starEach es X.env := by rfl) (hst : (backTo pos (starEach es X.env)).any (·.1) = true := by rfl) :
    PE X (.Call (.Name x p) (e :: es) [] pos) (tCallR sp t) := by
  obtain ⟨f, hm, hk, F⟩ := c
  exact StX.pe_callS2 F hr hk hg hm pass0 ha hdb he hst
theorem pe_mthR {pl : Sem Bool} (c : CalMR X.prog X.w X.K X.mg X.base k C m sp) (hr : Room k X.A) (he : PE X o ta) (ha : PA X (e :: es) t)
    (hst : starEach (e :: es) X.env = (false, eval e X.env) :: starEach es X.env := by rfl) (hpl : (backTo pos (starEach es X.env)).any (·.1) = false := by rfl)
    (ht : eval (.Call (.Attribute o m apos) (e :: es) [] pos) X.env = (do
      let ov ← eval o X.env
      standAt apos.atName
      let (f, first) ← holding [ov] (getMethod ov m pl)
      callWith pos f first (backTo pos (starEach (e :: es) X.env)) (backToKw pos (keywordEach [] X.env))) := by rfl) :
    PE X (.Call (.Attribute o m apos) (e :: es) [] pos) (tMethR C m sp E0 ta t) := by
  obtain ⟨cc, f, hm, F⟩ := c
  exact pe_methR he cc hm F hr pass0 ha hst hpl ht
end
theorem made {H : Hp} {x dx : Addr} {o u : HO} (nx : H x = none) (nd : H dx = none) : Same H (upd (upd H dx u) x o) := ((Same.refl H).put nd).put nx
end K89
set_option Elab.async false
set_option linter.all false
set_option maxRecDepth 100000
set_option maxHeartbeats 1000000
namespace K89
open PySem PySem.Spec PyProof.Rows L2
/-- t.index(x), t a tuple of flat items -/
def rIndexT (K : PySem.W.Frag) : V → List V → Hp → VK → Prop := fun x xs H Q => ∃ (a : Addr) (ys : List V) (y : V) (j : Nat) (z : V), x = V.ref a ∧ xs = [y] ∧ SqT K H a ys ∧ flatV y = true ∧ ys.all flatV = true ∧ ys[j]? = some z ∧ eqV z y = true ∧
  (∀ (m : Nat) (z' : V), m < j → ys[m]? = some z' → eqV z' y = false) ∧ Q (.int (j : Nat)) H
theorem mt_indexT {X : Cx} : MtR X "tuple.index" (rIndexT X.K) := by
  intro pins s σ H x xs v us Q I rx rxs h
  obtain ⟨a, ys, y, j, z, rfl, rfl, hq, fy, fys, hz, hzj, hno, q⟩ := h
  cases rx
  obtain ⟨uy, rfl, ry⟩ := vals1 rxs
  obtain ⟨its, rv, ⟨⟨cls, dd, dt, sl⟩, ho, hc, n, hd⟩, hlen⟩ := I.tuple hq
  simp only at hc hd
  subst hc hd
  obtain ⟨u, hu, ru⟩ := rv.get hz
  have hj : j < its.toArray.size := by rw [List.size_toArray]; exact (List.getElem?_eq_some_iff.mp hu).1
  have at1 : ∀ (m : Nat) (hm : m < its.toArray.size), ∃ w, ys[m]? = some w ∧ RelV w its.toArray[m] := fun m hm => by
    have hm' : m < ys.length := by rw [rv.length, ← List.size_toArray]; exact hm
    obtain ⟨w, hw, rw'⟩ := rv.get (i := m) (x := ys[m]) (List.getElem?_eq_getElem hm')
    refine ⟨ys[m], List.getElem?_eq_getElem hm', ?_⟩
    have e := (List.getElem?_eq_some_iff.mp hw).2
    have e2 : its.toArray[m] = w := by rw [← e]; simp
    rw [e2]
    exact rw'
  refine call_meets PySem.F.slot_tuple_index ⟨_, ho, rfl⟩ PySem.F.entry_tuple_index (PySem.F.args_tuple_index_2 _ _) (TI.tuple_indexAt a its.toArray n dd sl uy (eqU y) j hj ?_ ?_)
    ⟨ho, fun w hw => mem_eqAt ry fy rv fys w (by simpa using hw), ⟨.int (j : Nat), H, I.tok _, ⟨_, rfl⟩, q⟩⟩
  · obtain ⟨w, h1, h2⟩ := at1 j hj
    rw [hz] at h1
    cases h1
    rw [eqU_of h2 (flat_at fys hz)]
    exact hzj
  · intro m hm hmj
    obtain ⟨w, h1, h2⟩ := at1 m hm
    rw [eqU_of h2 (flat_at fys h1)]
    exact hno m _ hmj h1
end K89
namespace K89
open PySem PySem.Spec PyProof.Rows L2
/-- t.m(e, ..) of a tuple that is known to its object -/
def tBMF (r : V → List V → Hp → VK → Prop) (to : TE) (t : TA) : TE := fun σ H Q => to σ H fun x H1 => (∃ (a : Addr) (ob : Obj) (xs : List V), x = .ref a ∧ H1 a = some (.frz ob (.tup xs)) ∧ ob.dict = none) ∧ t σ H1 fun xs H2 => r x xs H2 Q
theorem pe_bmF {X : Cx} {o e : Expr} {es : List Expr} {to : TE} {t : TA} {name : Str} {apos cpos : Pos} {id : String} {r : V → List V → Hp → VK → Prop} (slot : Slot "tuple" name id) (hty : typeOf (.builtin id) = pure (.type "method_descriptor")) (hm : MtR X id r) (ho : PE X o to) (ha : PA X (e :: es) t)
    (hbase : attributeBase o name X.env (eval o X.env) = eval o X.env := by rfl)
    (hfew : ((backTo cpos (starEach (e :: es) X.env)).all (fun x => !x.1) && (backToKw cpos (keywordEach [] X.env)).all (fun x => x.1.isSome)
      && decide ((e :: es).length + ([] : List Keyword).length + (if ([] : List Keyword).isEmpty then 0 else 1) < 30)) = true := by rfl)
    (hline : (apos.endLine == cpos.line) = true := by rfl) (hs : starEach (e :: es) X.env = (false, eval e X.env) :: starEach es X.env := by rfl) (hplain : (backTo cpos (starEach es X.env)).any (·.1) = false := by rfl) :
    PE X (.Call (.Attribute o name apos) (e :: es) [] cpos) (tBMF r to t) := by
  refine ⟨fun pins s σ H Q I h => ?_⟩
  refine wpAny_Call_method_late hbase hfew hline rfl (thn (ho.run pins s σ H _ I h) fun v s1 ⟨x, H1, I1, r1, ⟨a, ob, xs0, ex, e1, hd⟩, q1⟩ => ?_)
  subst ex
  obtain rfl : v = Value.ref a := r1
  obtain ⟨g1, _, its, _, ⟨ob2, g2, hc, _⟩⟩ := I1.hok a _ e1
  rw [g1] at g2
  cases g2
  refine ⟨"tuple", id, PySem.F.plainAttrs_tuple, slot, hty, ⟨ob, g1, hc⟩, fun b z => ?_, ?_⟩
  · cases z
    exact ⟨ob, g1, hd⟩
  have hA := ha.run cpos pins s1 σ H1 _ I1 q1
  rw [hs] at hA ⊢
  refine Calls.callWith_builtin (by show (false || (backTo cpos (starEach es X.env)).any (·.1)) = false; rw [hplain] <;> rfl) (Calls.evalArgs_plain ?_)
  exact thn hA fun us s2 ⟨vs, H2, I2, r2, q2⟩ => hm pins s2 σ H2 (.ref a) vs _ us Q I2 rfl r2 q2
end K89
set_option Elab.async false
set_option linter.all false
set_option maxRecDepth 100000
namespace K89
/-! ### orders: the frontier, how many orders are left, the rank -/
def srt (l : List Nat) : List Nat := l.mergeSort fun a b => decide (a ≤ b)
theorem srt_perm (l : List Nat) : (srt l).Perm l := List.mergeSort_perm l _
theorem srt_le (l : List Nat) : (srt l).Pairwise (· ≤ ·) := by
  have h : (srt l).Pairwise fun a b => decide (a ≤ b) = true := by
    refine List.pairwise_mergeSort (fun a b c h1 h2 => ?_) (fun a b => ?_) l
    · simp at *; omega
    · simp; omega
  exact h.imp fun h => by simpa using h
theorem perm_sum_map {l1 l2 : List Nat} (h : l1.Perm l2) (f : Nat → Nat) : (l1.map f).sum = (l2.map f).sum := (h.map f).sum_nat
theorem perm_prod_map {l1 l2 : List Nat} (h : l1.Perm l2) (f : Nat → Nat) : (l1.map f).prod = (l2.map f).prod := (h.map f).prod_nat
def nextOf (n : Nat) (par : Nat → Nat) (nx : List Nat) (p : Nat) : List Nat := srt (nx.filter (fun o => decide (o ≠ p)) ++ kids n par p)
def cnt (n : Nat) (par : Nat → Nat) : Nat → List Nat → Nat
  | 0, _ => 1
  | m + 1, nx => (nx.map fun p => cnt n par m (nextOf n par nx p)).sum
def rankOf (n : Nat) (par : Nat → Nat) : Nat → List Nat → List Nat → Nat
  | m + 1, nx, p :: rest => ((nx.filter fun q => decide (q < p)).map fun q => cnt n par m (nextOf n par nx q)).sum + rankOf n par m (nextOf n par nx p) rest
  | _, _, _ => 0
def OrdV (n : Nat) (par : Nat → Nat) : Nat → List Nat → List Nat → Prop
  | 0, _, ord => ord = []
  | m + 1, nx, ord => ∃ p rest, ord = p :: rest ∧ p ∈ nx ∧ OrdV n par m (nextOf n par nx p) rest

section
variable {n : Nat} {par : Nat → Nat}
theorem filter_ne_perm : ∀ {l : List Nat} {p : Nat}, l.Nodup → p ∈ l → l.Perm (p :: l.filter fun o => decide (o ≠ p))
  | [], _, _, h => by cases h
  | a :: l, p, nd, h => by
    have nd' := List.nodup_cons.mp nd
    by_cases e : a = p
    · subst e
      have e2 : l.filter (fun o => decide (o ≠ a)) = l := List.filter_eq_self.mpr fun o ho => by
        simp
        intro h2
        exact nd'.1 (h2 ▸ ho)
      rw [List.filter_cons_of_neg (by simp), e2]
    · have hp : p ∈ l := by
        rcases List.mem_cons.mp h with h | h
        · exact absurd h.symm e
        · exact h
      rw [List.filter_cons_of_pos (by simpa using e)]
      exact ((filter_ne_perm nd'.2 hp).cons a).trans (List.Perm.swap p a _)
/-- the sum of the weights along the frontier falls by one -/
theorem next_sum (hp : ∀ k, 0 < k → par k < k) {nx : List Nat} {p : Nat} (nd : nx.Nodup) (hm : p ∈ nx) (hn : p < n) : ((nextOf n par nx p).map (wt n par)).sum + 1 = (nx.map (wt n par)).sum := by
  rw [nextOf, perm_sum_map (srt_perm _), List.map_append, List.sum_append, perm_sum_map (filter_ne_perm nd hm), List.map_cons, List.sum_cons, wt_eq hp hn]
  omega

/-! ### the product over a part of the tree -/
def spF (n : Nat) (par : Nat → Nat) : Nat → Nat → Nat
  | 0, _ => 1
  | f + 1, p => wt n par p * ((kids n par p).map (spF n par f)).prod
def sp (n : Nat) (par : Nat → Nat) (p : Nat) : Nat := spF n par (n + 1) p
theorem wt_one (hp : ∀ k, 0 < k → par k < k) {p : Nat} (h : n ≤ p + 1) : wt n par p = 1 := by
  have e : kids n par p = [] := List.eq_nil_iff_forall_not_mem.mpr fun k hk => by have := kid_gt hp hk; omega
  unfold wt
  cases n with
  | zero => rfl
  | succ n => simp [wtF, e]
theorem spF_eq (hp : ∀ k, 0 < k → par k < k) : ∀ (f g p : Nat), n ≤ f + p + 1 → n ≤ g + p + 1 → spF n par f p = spF n par g p := by
  intro f
  induction f with
  | zero =>
    intro g p hf hg
    have e : kids n par p = [] := List.eq_nil_iff_forall_not_mem.mpr fun k hk => by have := kid_gt hp hk; omega
    cases g with
    | zero => rfl
    | succ g => simp [spF, e, wt_one hp (n := n) (p := p) (by omega)]
  | succ f ih =>
    intro g p hf hg
    cases g with
    | zero =>
      have e : kids n par p = [] := List.eq_nil_iff_forall_not_mem.mpr fun k hk => by have := kid_gt hp hk; omega
      simp [spF, e, wt_one hp (n := n) (p := p) (by omega)]
    | succ g =>
      show wt n par p * ((kids n par p).map (spF n par f)).prod = wt n par p * ((kids n par p).map (spF n par g)).prod
      congr 2
      apply List.map_congr_left
      intro k hk
      have hk' := kid_gt hp hk
      exact ih g k (by omega) (by omega)
theorem sp_eq (hp : ∀ k, 0 < k → par k < k) {p : Nat} : sp n par p = wt n par p * ((kids n par p).map (sp n par)).prod := by
  have e : sp n par p = spF n par (n + 2) p := spF_eq hp (n + 1) (n + 2) p (by omega) (by omega)
  rw [e]
  rfl
theorem prod_pos_of : ∀ {l : List Nat}, (∀ a ∈ l, 0 < a) → 0 < l.prod
  | [], _ => by simp
  | a :: l, h => by
    rw [List.prod_cons]
    exact Nat.mul_pos (h a List.mem_cons_self) (prod_pos_of fun b hb => h b (List.mem_cons_of_mem _ hb))
theorem wt_pos' (p : Nat) : 0 < wt n par p := by
  unfold wt
  cases n with
  | zero => simp [wtF]
  | succ n => simp [wtF]; omega
theorem sp_pos (p : Nat) : 0 < sp n par p := by
  have : ∀ (f p : Nat), 0 < spF n par f p := by
    intro f
    induction f with
    | zero => intro p; simp [spF]
    | succ f ih =>
      intro p
      exact Nat.mul_pos (wt_pos' p) (prod_pos_of fun a ha => by
        obtain ⟨k, _, rfl⟩ := List.mem_map.mp ha
        exact ih k)
  exact this _ p
def PR (n : Nat) (par : Nat → Nat) (nx : List Nat) : Nat := (nx.map (sp n par)).prod
theorem PR_next (hp : ∀ k, 0 < k → par k < k) {nx : List Nat} {p : Nat} (nd : nx.Nodup) (hm : p ∈ nx) : PR n par nx = wt n par p * PR n par (nextOf n par nx p) := by
  unfold PR
  rw [nextOf, perm_prod_map (srt_perm _), List.map_append, List.prod_append, perm_prod_map (filter_ne_perm nd hm), List.map_cons, List.prod_cons, sp_eq hp]
  rw [Nat.mul_assoc, Nat.mul_comm (((kids n par p).map (sp n par)).prod)]
def fact : Nat → Nat
  | 0 => 1
  | m + 1 => (m + 1) * fact m
/-- a frontier of m posts in all -/
structure Fr (n : Nat) (par : Nat → Nat) (m : Nat) (nx : List Nat) : Prop where
  nd : nx.Nodup
  lt : ∀ p ∈ nx, p < n
  sum : (nx.map (wt n par)).sum = m
  apart : ∀ p ∈ nx, ∀ q ∈ nx, p ∉ (ups par q).tail
theorem ups_tail_eq (hp : ∀ k, 0 < k → par k < k) {k : Nat} (h : 0 < k) : (ups par k).tail = ups par (par k) := by
  rw [ups_pos hp h]
  rfl
theorem Fr.next (hp : ∀ k, 0 < k → par k < k) {m : Nat} {nx : List Nat} (f : Fr n par (m + 1) nx) {p : Nat} (hm : p ∈ nx) : Fr n par m (nextOf n par nx p) := by
  have hpn := f.lt p hm
  have memn : ∀ q, q ∈ nextOf n par nx p ↔ (q ∈ nx ∧ q ≠ p) ∨ q ∈ kids n par p := fun q => by
    unfold nextOf
    rw [(srt_perm _).mem_iff, List.mem_append, List.mem_filter]
    simp
  have kidp : ∀ k ∈ kids n par p, p ∈ (ups par k).tail := fun k hk => by
    obtain ⟨_, h2, h3⟩ := mem_kids.mp hk
    rw [ups_tail_eq hp h2, h3]
    exact ups_self hp
  have tails : ∀ k ∈ kids n par p, ∀ z, z ∈ (ups par k).tail → z = p ∨ z ∈ (ups par p).tail := fun k hk z hz => by
    obtain ⟨_, h2, h3⟩ := mem_kids.mp hk
    rw [ups_tail_eq hp h2, h3, ups_head hp] at hz
    exact List.mem_cons.mp hz
  refine ⟨?_, fun q hq => ?_, ?_, fun a ha b hb hab => ?_⟩
  · unfold nextOf
    refine (srt_perm _).nodup_iff.mpr (List.nodup_append.mpr ⟨f.nd.filter _, ?_, fun a ha b hb e => ?_⟩)
    · exact (List.nodup_range).filter _
    · have ha' := (List.mem_filter.mp ha).1
      rw [e] at ha'
      exact f.apart p hm b ha' (kidp b hb)
  · rcases (memn q).mp hq with h | h
    · exact f.lt q h.1
    · exact (mem_kids.mp h).1
  · have := next_sum hp f.nd hm hpn
    rw [f.sum] at this
    omega
  · rcases (memn a).mp ha with h1 | h1
    · rcases (memn b).mp hb with h2 | h2
      · exact f.apart a h1.1 b h2.1 hab
      · rcases tails b h2 a hab with h | h
        · exact h1.2 h
        · exact f.apart a h1.1 p hm h
    · have e := kidp a h1
      have hpa : p ∈ (ups par b).tail := by
        have hb' : 0 < b := by
          rcases Nat.eq_zero_or_pos b with h | h
          · subst h
            rw [ups_zero hp] at hab
            simp at hab
          · exact h
        rw [ups_tail_eq hp hb'] at hab ⊢
        refine ups_trans hp hab ?_
        rw [ups_head hp]
        exact List.mem_cons_of_mem _ e
      rcases (memn b).mp hb with h2 | h2
      · exact f.apart p hm b h2.1 hpa
      · rcases tails b h2 a hab with h | h
        · have := ups_tail_lt hp p e
          omega
        · have h3 := ups_tail_lt hp a h
          have h4 := ups_tail_lt hp p e
          omega
theorem Fr.nil {nx : List Nat} (f : Fr n par 0 nx) : nx = [] := by
  cases nx with
  | nil => rfl
  | cons a l =>
    have := f.sum
    rw [List.map_cons, List.sum_cons] at this
    have := wt_pos' (n := n) (par := par) a
    omega
theorem sum_map_mul (f g : Nat → Nat) (c : Nat) : ∀ {l : List Nat}, (∀ a ∈ l, f a = c * g a) → (l.map f).sum = c * (l.map g).sum
  | [], _ => by simp
  | a :: l, h => by
    rw [List.map_cons, List.sum_cons, List.map_cons, List.sum_cons, h a List.mem_cons_self, sum_map_mul f g c fun b hb => h b (List.mem_cons_of_mem _ hb), Nat.mul_add]
theorem sum_mul (f : Nat → Nat) (c : Nat) : ∀ {l : List Nat}, (l.map f).sum * c = (l.map fun a => f a * c).sum
  | [] => by simp
  | a :: l => by
    rw [List.map_cons, List.sum_cons, List.map_cons, List.sum_cons, Nat.add_mul, sum_mul f c]
/-- the hook formula -/
theorem cnt_hook (hp : ∀ k, 0 < k → par k < k) : ∀ (m : Nat) (nx : List Nat), Fr n par m nx → cnt n par m nx * PR n par nx = fact m
  | 0, nx, f => by
    rw [f.nil]
    simp [cnt, PR, fact]
  | m + 1, nx, f => by
    show (nx.map fun p => cnt n par m (nextOf n par nx p)).sum * PR n par nx = fact (m + 1)
    rw [sum_mul]
    rw [sum_map_mul (fun a => cnt n par m (nextOf n par nx a) * PR n par nx) (wt n par) (fact m) fun p hm => ?_]
    · rw [f.sum]
      simp only [fact]
      exact Nat.mul_comm _ _
    · show cnt n par m (nextOf n par nx p) * PR n par nx = fact m * wt n par p
      rw [PR_next hp f.nd hm, ← cnt_hook hp m _ (f.next hp hm), Nat.mul_comm (wt n par p), Nat.mul_assoc]
theorem PR_pos {nx : List Nat} : 0 < PR n par nx := prod_pos_of fun a ha => by
  obtain ⟨k, _, rfl⟩ := List.mem_map.mp ha
  exact sp_pos k
/-- ways_after -/
theorem cnt_after (hp : ∀ k, 0 < k → par k < k) {m : Nat} {nx : List Nat} (f : Fr n par (m + 1) nx) {p : Nat} (hm : p ∈ nx) : cnt n par (m + 1) nx * wt n par p = (m + 1) * cnt n par m (nextOf n par nx p) := by
  have h1 := cnt_hook hp (m + 1) nx f
  have h2 := cnt_hook hp m _ (f.next hp hm)
  rw [PR_next hp f.nd hm] at h1
  have h3 : (cnt n par (m + 1) nx * wt n par p) * PR n par (nextOf n par nx p) = ((m + 1) * cnt n par m (nextOf n par nx p)) * PR n par (nextOf n par nx p) := by
    rw [Nat.mul_assoc, h1, Nat.mul_assoc, h2]
    rfl
  exact Nat.eq_of_mul_eq_mul_right PR_pos h3
theorem cnt_le (hp : ∀ k, 0 < k → par k < k) {m : Nat} {nx : List Nat} (f : Fr n par m nx) : cnt n par m nx ≤ fact m := by
  rw [← cnt_hook hp m nx f]
  exact Nat.le_mul_of_pos_right _ PR_pos
end
end K89
set_option Elab.async false
set_option linter.all false
set_option maxRecDepth 100000
namespace K89
section
variable {n : Nat} {par : Nat → Nat}
theorem kids_perm (hp : ∀ k, 0 < k → par k < k) : ((List.range n).flatMap (kids n par)).Perm ((List.range n).filter fun k => decide (0 < k)) := by
  refine (List.perm_ext_iff_of_nodup ?_ (List.nodup_range.filter _)).mpr fun k => ?_
  · refine List.pairwise_flatMap.mpr ⟨fun a _ => List.nodup_range.filter _, List.nodup_range.imp fun {a b} hab x hx y hy e => ?_⟩
    have h1 := (mem_kids.mp hx).2.2
    have h2 := (mem_kids.mp hy).2.2
    rw [e] at h1
    exact hab (h1.symm.trans h2)
  · rw [List.mem_flatMap, List.mem_filter, List.mem_range]
    constructor
    · rintro ⟨p, _, h⟩
      obtain ⟨h1, h2, h3⟩ := mem_kids.mp h
      exact ⟨h1, by simpa using h2⟩
    · rintro ⟨h1, h2⟩
      have h2 : 0 < k := by simpa using h2
      exact ⟨par k, List.mem_range.mpr (by have := hp k h2; omega), mem_kids.mpr ⟨h1, h2, rfl⟩⟩
theorem sum_flat (f : Nat → Nat) (g : Nat → List Nat) : ∀ l : List Nat, ((l.flatMap g).map f).sum = (l.map fun p => ((g p).map f).sum).sum
  | [] => rfl
  | a :: l => by rw [List.flatMap_cons, List.map_append, List.sum_append, List.map_cons, List.sum_cons, sum_flat f g l]
theorem prod_flat (f : Nat → Nat) (g : Nat → List Nat) : ∀ l : List Nat, ((l.flatMap g).map f).prod = (l.map fun p => ((g p).map f).prod).prod
  | [] => rfl
  | a :: l => by rw [List.flatMap_cons, List.map_append, List.prod_append, List.map_cons, List.prod_cons, prod_flat f g l]
theorem range_pos : ∀ n : Nat, List.range (n + 1) = 0 :: (List.range (n + 1)).filter fun k => decide (0 < k)
  | 0 => rfl
  | n + 1 => by
    rw [List.range_succ, List.filter_append, ← List.cons_append, ← range_pos n]
    simp
theorem wt_head (hp : ∀ k, 0 < k → par k < k) (h : 0 < n) : wt n par 0 = n := by
  obtain ⟨m, rfl⟩ : ∃ m, n = m + 1 := ⟨n - 1, by omega⟩
  have e1 : ((List.range (m + 1)).map (wt (m + 1) par)).sum = (m + 1) + ((List.range (m + 1)).map fun p => ((kids (m + 1) par p).map (wt (m + 1) par)).sum).sum := by
    have : ∀ l : List Nat, (∀ p ∈ l, p < m + 1) → (l.map (wt (m + 1) par)).sum = l.length + (l.map fun p => ((kids (m + 1) par p).map (wt (m + 1) par)).sum).sum := by
      intro l
      induction l with
      | nil => intro _; rfl
      | cons a l ih =>
        intro hl
        rw [List.map_cons, List.sum_cons, ih fun p hp' => hl p (List.mem_cons_of_mem _ hp'), wt_eq hp (hl a List.mem_cons_self), List.map_cons, List.sum_cons, List.length_cons]
        omega
    have := this (List.range (m + 1)) fun p hp' => List.mem_range.mp hp'
    rwa [List.length_range] at this
  rw [← sum_flat, perm_sum_map (kids_perm hp)] at e1
  rw [range_pos m, List.map_cons, List.sum_cons, List.filter_cons_of_neg (by simp)] at e1
  have e2 : ((List.range (m + 1)).filter fun k => decide (0 < k)).filter (fun k => decide (0 < k)) = (List.range (m + 1)).filter fun k => decide (0 < k) := by
    rw [List.filter_filter]
    simp
  rw [e2] at e1
  omega
theorem sp_head (hp : ∀ k, 0 < k → par k < k) (h : 0 < n) : sp n par 0 = ((List.range n).map (wt n par)).prod := by
  obtain ⟨m, rfl⟩ : ∃ m, n = m + 1 := ⟨n - 1, by omega⟩
  have e1 : ((List.range (m + 1)).map (sp (m + 1) par)).prod = ((List.range (m + 1)).map (wt (m + 1) par)).prod * ((List.range (m + 1)).map fun p => ((kids (m + 1) par p).map (sp (m + 1) par)).prod).prod := by
    have : ∀ l : List Nat, (l.map (sp (m + 1) par)).prod = (l.map (wt (m + 1) par)).prod * (l.map fun p => ((kids (m + 1) par p).map (sp (m + 1) par)).prod).prod := by
      intro l
      induction l with
      | nil => rfl
      | cons a l ih =>
        simp only [List.map_cons, List.prod_cons]
        rw [ih, sp_eq hp]
        simp only [Nat.mul_assoc, Nat.mul_left_comm, Nat.mul_comm]
    exact this _
  rw [← prod_flat, perm_prod_map (kids_perm hp)] at e1
  have e0 : ((List.range (m + 1)).map (sp (m + 1) par)).prod = sp (m + 1) par 0 * (((List.range (m + 1)).filter fun k => decide (0 < k)).map (sp (m + 1) par)).prod := by
    conv => lhs; rw [range_pos m, List.map_cons, List.prod_cons]
  rw [e0] at e1
  exact Nat.eq_of_mul_eq_mul_right (prod_pos_of fun a ha => by
    obtain ⟨k, _, rfl⟩ := List.mem_map.mp ha
    exact sp_pos k) e1
theorem Fr.start (hp : ∀ k, 0 < k → par k < k) (h : 0 < n) : Fr n par n [0] where
  nd := by simp
  lt := fun p hp' => by rw [List.mem_singleton.mp hp']; exact h
  sum := by simp [wt_head hp h]
  apart := fun p h1 q h2 h3 => by
    rw [List.mem_singleton.mp h2, ups_zero hp] at h3
    simp at h3
theorem PR_start (hp : ∀ k, 0 < k → par k < k) (h : 0 < n) : PR n par [0] = ((List.range n).map (wt n par)).prod := by
  simp [PR, sp_head hp h]
/-- Unplaced's first number -/
theorem cnt_start (hp : ∀ k, 0 < k → par k < k) (h : 0 < n) : fact n / ((List.range n).map (wt n par)).prod = cnt n par n [0] := by
  rw [← PR_start hp h]
  exact Nat.div_eq_of_eq_mul_left PR_pos (cnt_hook hp n [0] (Fr.start hp h)).symm

/-! ### what an order is -/
/-- what the frontier is when some are placed -/
structure Pl (n : Nat) (par : Nat → Nat) (m : Nat) (placed nx : List Nat) : Prop where
  fr : Fr n par m nx
  sort : nx.Pairwise (· ≤ ·)
  mem : ∀ p, p ∈ nx ↔ p < n ∧ p ∉ placed ∧ (p = 0 ∨ par p ∈ placed)
  cl : ∀ k ∈ placed, 0 < k → par k ∈ placed
  len : placed.length + m = n
theorem Pl.start (hp : ∀ k, 0 < k → par k < k) (h : 0 < n) : Pl n par n [] [0] where
  fr := Fr.start hp h
  sort := by simp
  mem := fun p => by
    constructor
    · intro hm
      rw [List.mem_singleton.mp hm]
      exact ⟨h, by simp, .inl rfl⟩
    · rintro ⟨_, _, h | h⟩
      · rw [h]; simp
      · simp at h
  cl := fun k h => by simp at h
  len := by simp
theorem mem_next {nx : List Nat} {p q : Nat} : q ∈ nextOf n par nx p ↔ (q ∈ nx ∧ q ≠ p) ∨ q ∈ kids n par p := by
  unfold nextOf
  rw [(srt_perm _).mem_iff, List.mem_append, List.mem_filter]
  simp
theorem Pl.next (hp : ∀ k, 0 < k → par k < k) {m : Nat} {placed nx : List Nat} (f : Pl n par (m + 1) placed nx) {p : Nat} (hm : p ∈ nx) : Pl n par m (placed ++ [p]) (nextOf n par nx p) where
  fr := f.fr.next hp hm
  sort := srt_le _
  mem := fun q => by
    obtain ⟨hpn, hpp, hpu⟩ := (f.mem p).mp hm
    rw [mem_next, f.mem q, mem_kids]
    simp only [List.mem_append, List.mem_singleton]
    constructor
    · rintro (⟨⟨h1, h2, h3⟩, h4⟩ | ⟨h1, h2, h3⟩)
      · refine ⟨h1, by rintro (h | h); exact h2 h; exact h4 h, ?_⟩
        rcases h3 with h3 | h3
        · exact .inl h3
        · exact .inr (.inl h3)
      · refine ⟨h1, ?_, .inr (.inr h3)⟩
        rintro (h | h)
        · have := f.cl q h h2
          rw [h3] at this
          exact hpp this
        · have := hp q h2
          omega
    · rintro ⟨h1, h2, h3⟩
      have h2a : q ∉ placed := fun h => h2 (.inl h)
      have h2b : q ≠ p := fun h => h2 (.inr h)
      rcases h3 with h3 | h3 | h3
      · exact .inl ⟨⟨h1, h2a, .inl h3⟩, h2b⟩
      · exact .inl ⟨⟨h1, h2a, .inr h3⟩, h2b⟩
      · rcases Nat.eq_zero_or_pos q with h0 | h0
        · exact .inl ⟨⟨h1, h2a, .inl h0⟩, h2b⟩
        · exact .inr ⟨h1, h0, h3⟩
  cl := fun k hk h0 => by
    obtain ⟨hpn, hpp, hpu⟩ := (f.mem p).mp hm
    rcases List.mem_append.mp hk with h | h
    · exact List.mem_append_left _ (f.cl k h h0)
    · rw [List.mem_singleton.mp h] at h0 ⊢
      rcases hpu with h | h
      · omega
      · exact List.mem_append_left _ h
  len := by
    rw [List.length_append, List.length_singleton]
    have := f.len
    omega
theorem Pl.done (hp : ∀ k, 0 < k → par k < k) {placed nx : List Nat} (f : Pl n par 0 placed nx) : ∀ k, k < n → k ∈ placed := by
  have e := f.fr.nil
  intro k
  induction k using Nat.strongRecOn with
  | ind k ih =>
    intro hk
    refine Decidable.byContradiction fun h => ?_
    have : k ∈ nx := (f.mem k).mpr ⟨hk, h, by
      rcases Nat.eq_zero_or_pos k with h0 | h0
      · exact .inl h0
      · exact .inr (ih (par k) (hp k h0) (by have := hp k h0; omega))⟩
    rw [e] at this
    simp at this
/-- an order: each post behind the one above it -/
structure Ord (n : Nat) (par : Nat → Nat) (ord : List Nat) : Prop where
  len : ord.length = n
  lt : ∀ k ∈ ord, k < n
  all : ∀ k, k < n → k ∈ ord
  nd : ord.Nodup
  up : ∀ (i : Nat) (h : i < ord.length), 0 < ord[i] → par ord[i] ∈ ord.take i
theorem ordv_aux (hp : ∀ k, 0 < k → par k < k) : ∀ (m : Nat) (placed nx rest : List Nat), Pl n par m placed nx → placed.Nodup → OrdV n par m nx rest →
    (placed ++ rest).length = n ∧ (∀ k ∈ rest, k < n) ∧ (∀ k, k < n → k ∈ placed ++ rest) ∧ (placed ++ rest).Nodup ∧ ∀ (i : Nat) (h : i < rest.length), 0 < rest[i] → par rest[i] ∈ placed ++ rest.take i
  | 0, placed, nx, rest, f, nd, h => by
    have e : rest = [] := h
    subst e
    refine ⟨by simpa using f.len, fun k hk => by simp at hk, fun k hk => by simpa using f.done hp k hk, by simpa using nd, fun i hi => absurd hi (by simp)⟩
  | m + 1, placed, nx, rest, f, nd, h => by
    obtain ⟨p, r, rfl, hm, h2⟩ := h
    obtain ⟨hpn, hpp, hpu⟩ := (f.mem p).mp hm
    have nd' : (placed ++ [p]).Nodup := List.nodup_append.mpr ⟨nd, by simp, fun a ha b hb e => hpp (by rw [List.mem_singleton.mp hb] at e; rw [← e]; exact ha)⟩
    obtain ⟨h3, h4, h5, h6, h7⟩ := ordv_aux hp m _ _ r (f.next hp hm) nd' h2
    have ea : placed ++ [p] ++ r = placed ++ p :: r := by simp
    rw [ea] at h3 h6
    refine ⟨h3, fun k hk => ?_, fun k hk => ?_, h6, fun i hi h0 => ?_⟩
    · rcases List.mem_cons.mp hk with h | h
      · rw [h]; exact hpn
      · exact h4 k h
    · have := h5 k hk
      rwa [ea] at this
    · cases i with
      | zero =>
        simp at h0 ⊢
        rcases hpu with h | h
        · omega
        · exact h
      | succ i =>
        have := h7 i (by simpa using hi) h0
        simpa using this
theorem Ord.of (hp : ∀ k, 0 < k → par k < k) (h : 0 < n) {ord : List Nat} (o : OrdV n par n [0] ord) : Ord n par ord := by
  obtain ⟨h1, h2, h3, h4, h5⟩ := ordv_aux hp n [] [0] ord (Pl.start hp h) (by simp) o
  exact ⟨by simpa using h1, h2, fun k hk => by simpa using h3 k hk, by simpa using h4, fun i hi h0 => by simpa using h5 i hi h0⟩
end
end K89
namespace K89
theorem filter_take {S : List Nat} (h : S.Pairwise (· < ·)) : ∀ {i : Nat} (hi : i < S.length), S.filter (fun q => decide (q < S[i])) = S.take i := by
  induction S with
  | nil => intro i hi; simp at hi
  | cons a l ih =>
    intro i hi
    have h' := List.pairwise_cons.mp h
    cases i with
    | zero =>
      simp only [List.getElem_cons_zero, List.take_zero]
      refine List.filter_eq_nil_iff.mpr fun q hq => ?_
      simp
      rcases List.mem_cons.mp hq with e | e
      · omega
      · have := h'.1 q e; omega
    | succ i =>
      simp only [List.getElem_cons_succ, List.take_succ_cons]
      have hi' : i < l.length := by simpa using hi
      have := h'.1 l[i] (List.getElem_mem hi')
      rw [List.filter_cons_of_pos (by simpa using this), ih h'.2 hi']
end K89
namespace K89
/-- who is held where, by seniority -/
structure RowsOf (n : Nat) (A : Fn) (rows : List Nat) : Prop where
  mem : ∀ k, k ∈ rows ↔ k < n ∧ ∃ y, A k = some y
  sort : (rows.map fun k => (A k).getD 0).Pairwise (· < ·)
/-- the people, by seniority -/
structure PeopleOf (n : Nat) (A : Fn) (xs : List Nat) : Prop where
  sort : xs.Pairwise (· < ·)
  mem : ∀ y, y ∈ xs ↔ ∃ k, k < n ∧ A k = some y
theorem sorted_ext {l1 l2 : List Nat} (h1 : l1.Pairwise (· < ·)) (h2 : l2.Pairwise (· < ·)) (hm : ∀ y, y ∈ l1 ↔ y ∈ l2) : l1 = l2 := by
  have p : l1.Perm l2 := (List.perm_ext_iff_of_nodup (h1.imp fun h => Nat.ne_of_lt h) (h2.imp fun h => Nat.ne_of_lt h)).mpr hm
  exact List.Perm.eq_of_pairwise (le := fun a b => a < b) (fun a b _ _ h1 h2 => by omega) h1 h2 p
theorem PeopleOf.uniq {n : Nat} {A : Fn} {x1 x2 : List Nat} (a : PeopleOf n A x1) (b : PeopleOf n A x2) : x1 = x2 := sorted_ext a.sort b.sort fun y => (a.mem y).trans (b.mem y).symm
theorem RowsOf.people {n : Nat} {A : Fn} {rows : List Nat} (r : RowsOf n A rows) : PeopleOf n A (rows.map fun k => (A k).getD 0) where
  sort := r.sort
  mem := fun y => by
    rw [List.mem_map]
    constructor
    · rintro ⟨k, hk, e⟩
      obtain ⟨h1, z, h2⟩ := (r.mem k).mp hk
      rw [h2] at e
      exact ⟨k, h1, by rw [h2]; exact congrArg some e⟩
    · rintro ⟨k, h1, h2⟩
      exact ⟨k, (r.mem k).mpr ⟨h1, y, h2⟩, by rw [h2]; rfl⟩
theorem RowsOf.uniq {n : Nat} {A : Fn} {r1 r2 : List Nat} (inj : Inj n A) (a : RowsOf n A r1) (b : RowsOf n A r2) : r1 = r2 := by
  have e := a.people.uniq b.people
  have hl : r1.length = r2.length := by
    have := congrArg List.length e
    simpa using this
  refine List.ext_getElem hl fun i h1 h2 => ?_
  have e2 : (r1.map fun k => (A k).getD 0)[i]'(by simpa using h1) = (r2.map fun k => (A k).getD 0)[i]'(by simpa using h2) := by
    simp only [e]
  simp only [List.getElem_map] at e2
  obtain ⟨g1, y1, f1⟩ := (a.mem _).mp (List.getElem_mem h1)
  obtain ⟨g2, y2, f2⟩ := (b.mem _).mp (List.getElem_mem h2)
  rw [f1, f2] at e2
  have e3 : y1 = y2 := e2
  exact inj _ _ y1 g1 g2 f1 (by rw [f2, e3])
theorem sum_cast : ∀ l : List Nat, (l.map fun a => ((a : Nat) : Int)).sum = (l.sum : Int)
  | [] => rfl
  | a :: l => by rw [List.map_cons, List.sum_cons, sum_cast l, List.sum_cons, Int.natCast_add]
end K89
set_option Elab.async false
set_option linter.all false
set_option maxRecDepth 100000
set_option maxHeartbeats 1000000
namespace K89
open PySem PySem.Spec PyProof.Rows L2
/-! ### Unplaced -/
theorem putF_eq {x y : Str} {v u : V} {r : List (Str × V)} (h : y = x) : putF x v ((y, u) :: r) = (y, v) :: r := by
  show (if y = x then (y, v) :: r else (y, u) :: putF x v r) = _
  rw [if_pos h]
theorem putF_ne {x y : Str} {v u : V} {r : List (Str × V)} (h : ¬ y = x) : putF x v ((y, u) :: r) = (y, u) :: putF x v r := by
  show (if y = x then (y, v) :: r else (y, u) :: putF x v r) = _
  rw [if_neg h]
def unF (t wl : Addr) (m : Nat) (nl : Addr) (w : Int) : List (Str × V) := [("tree", .ref t), ("weights", .ref wl), ("left", .int (m : Int)), ("next_posts", .ref nl), ("ways", .int w)]
theorem ntw : ¬ (("tree" : Str) = "weights") := by decide +kernel
theorem ntl : ¬ (("tree" : Str) = "left") := by decide +kernel
theorem ntn : ¬ (("tree" : Str) = "next_posts") := by decide +kernel
theorem nty : ¬ (("tree" : Str) = "ways") := by decide +kernel
theorem nwl : ¬ (("weights" : Str) = "left") := by decide +kernel
theorem nwn : ¬ (("weights" : Str) = "next_posts") := by decide +kernel
theorem nwy : ¬ (("weights" : Str) = "ways") := by decide +kernel
theorem nln : ¬ (("left" : Str) = "next_posts") := by decide +kernel
theorem nly : ¬ (("left" : Str) = "ways") := by decide +kernel
theorem nny : ¬ (("next_posts" : Str) = "ways") := by decide +kernel
section
variable {t wl nl nl' : Addr} {m m' : Nat} {w w' : Int}
theorem un_made : putF "ways" (.int w) (putF "next_posts" (.ref nl) (putF "left" (.int (m : Int)) (putF "weights" (.ref wl) (putF "tree" (.ref t) [])))) = unF t wl m nl w := by
  show putF "ways" (.int w) (putF "next_posts" (.ref nl) (putF "left" (.int (m : Int)) (putF "weights" (.ref wl) [("tree", V.ref t)]))) = _
  rw [putF_ne ntw, putF_ne ntl]
  show putF "ways" (.int w) (putF "next_posts" (.ref nl) (("tree", V.ref t) :: putF "left" (.int (m : Int)) [("weights", V.ref wl)])) = _
  rw [putF_ne nwl, putF_ne ntn]
  show putF "ways" (.int w) (("tree", V.ref t) :: putF "next_posts" (.ref nl) (("weights", V.ref wl) :: [("left", V.int (m : Int))])) = _
  rw [putF_ne nwn, putF_ne nln, putF_ne nty, putF_ne nwy, putF_ne nly]
  show (("tree" : Str), V.ref t) :: (("weights" : Str), V.ref wl) :: (("left" : Str), V.int (m : Int)) :: putF "ways" (.int w) [("next_posts", V.ref nl)] = _
  rw [putF_ne nny]
  rfl
theorem un_ways : putF "ways" (.int w') (unF t wl m nl w) = unF t wl m nl w' := by
  unfold unF
  rw [putF_ne nty, putF_ne nwy, putF_ne nly, putF_ne nny, putF_eq rfl]
theorem un_left : putF "left" (.int (m' : Int)) (unF t wl m nl w) = unF t wl m' nl w := by
  unfold unF
  rw [putF_ne ntl, putF_ne nwl, putF_eq rfl]
theorem un_next : putF "next_posts" (.ref nl') (unF t wl m nl w) = unF t wl m nl' w := by
  unfold unF
  rw [putF_ne ntn, putF_ne nwn, putF_ne nln, putF_eq rfl]
theorem lk_eq {x y : Str} {v : V} {r : List (Str × V)} (h : x = y) : List.lookup x ((y, v) :: r) = some v := by
  rw [List.lookup_cons, beq_iff_eq.mpr h]
theorem lk_ne {x y : Str} {v : V} {r : List (Str × V)} (h : ¬ y = x) : List.lookup x ((y, v) :: r) = List.lookup x r := by
  rw [List.lookup_cons, beq_eq_false_iff_ne.mpr (fun e => h e.symm)]
theorem un_gt : (unF t wl m nl w).lookup ("tree" : Str) = some (.ref t) := lk_eq rfl
theorem un_gw : (unF t wl m nl w).lookup ("weights" : Str) = some (.ref wl) := (lk_ne ntw).trans (lk_eq rfl)
theorem un_gl : (unF t wl m nl w).lookup ("left" : Str) = some (.int (m : Int)) := (lk_ne ntl).trans ((lk_ne nwl).trans (lk_eq rfl))
theorem un_gn : (unF t wl m nl w).lookup ("next_posts" : Str) = some (.ref nl) := (lk_ne ntn).trans ((lk_ne nwn).trans ((lk_ne nln).trans (lk_eq rfl)))
theorem un_gy : (unF t wl m nl w).lookup ("ways" : Str) = some (.int w) := (lk_ne nty).trans ((lk_ne nwy).trans ((lk_ne nly).trans ((lk_ne nny).trans (lk_eq rfl))))
theorem un_no {x : Str} (h1 : ¬ ("tree" : Str) = x) (h2 : ¬ ("weights" : Str) = x) (h3 : ¬ ("left" : Str) = x) (h4 : ¬ ("next_posts" : Str) = x) (h5 : ¬ ("ways" : Str) = x) : (unF t wl m nl w).lookup x = none :=
  (lk_ne h1).trans ((lk_ne h2).trans ((lk_ne h3).trans ((lk_ne h4).trans ((lk_ne h5).trans rfl))))
end
/-- what stands still of an Unplaced, within H1; what turns, at u -/
structure UnAt (CT CU : Addr) (H1 H : Hp) (u t wl nl c : Addr) (n : Nat) (par : Nat → Nat) (m : Nat) (nx : List Nat) : Prop where
  mle : m ≤ n
  sm : Same H1 H
  nu : H1 u = none
  tr : TreeAt CT H1 t c n par
  wts : H1 wl = some (.lst (nV ((List.range n).map (wt n par))))
  at_ : ∃ dx, H u = some (.ins CU dx (unF t wl m nl (cnt n par m nx)))
  nl : H nl = some (.lst (nV nx))
theorem UnAt.re {CT CU : Addr} {H1 H2 H : Hp} {u t wl nl c : Addr} {n m : Nat} {par : Nat → Nat} {nx : List Nat} (a : UnAt CT CU H1 H u t wl nl c n par m nx) (s12 : Same H1 H2) (nu : H2 u = none) (s2 : Same H2 H) : UnAt CT CU H2 H u t wl nl c n par m nx :=
  ⟨a.mle, s2, nu, a.tr.mono s12, s12 _ _ a.wts, a.at_, a.nl⟩
theorem UnAt.mono {CT CU : Addr} {H1 H H' : Hp} {u t wl nl c : Addr} {n m : Nat} {par : Nat → Nat} {nx : List Nat} (a : UnAt CT CU H1 H u t wl nl c n par m nx) (s : Same H H') : UnAt CT CU H1 H' u t wl nl c n par m nx := by
  obtain ⟨dx, e⟩ := a.at_
  exact ⟨a.mle, a.sm.trans s, a.nu, a.tr, a.wts, ⟨dx, s _ _ e⟩, s _ _ a.nl⟩
theorem fact_le {n : Nat} (h : n ≤ 20) : fact n ≤ 2432902008176640000 := by
  have mono : ∀ a b : Nat, a ≤ b → fact a ≤ fact b := by
    intro a b hab
    induction b with
    | zero => rw [Nat.le_zero.mp hab]; exact Nat.le_refl _
    | succ b ih =>
      rcases Nat.eq_or_lt_of_le hab with e | e
      · rw [e]; exact Nat.le_refl _
      · exact Nat.le_trans (ih (by omega)) (Nat.le_mul_of_pos_left _ (by omega))
  exact Nat.le_trans (mono n 20 h) (by decide)
theorem wt_le {n : Nat} {par : Nat → Nat} (hp : ∀ k, 0 < k → par k < k) {nx : List Nat} {m p : Nat} (f : Fr n par m nx) (hm : p ∈ nx) : wt n par p ≤ m := by
  have := f.sum
  have h2 : ∀ {l : List Nat} {a : Nat}, a ∈ l → a ≤ l.sum := by
    intro l
    induction l with
    | nil => intro a h; cases h
    | cons b l ih =>
      intro a h
      rw [List.sum_cons]
      rcases List.mem_cons.mp h with h | h
      · omega
      · have := ih h; omega
  rw [← this]
  exact h2 (List.mem_map.mpr ⟨p, hm, rfl⟩)
end K89
namespace K89
open PySem PySem.Spec PyProof.Rows L2
def unF1 (t : Addr) : List (Str × V) := [("tree", .ref t)]
def unF2 (t wl : Addr) : List (Str × V) := [("tree", .ref t), ("weights", .ref wl)]
def unF3 (t wl : Addr) (m : Nat) : List (Str × V) := [("tree", .ref t), ("weights", .ref wl), ("left", .int (m : Int))]
def unF4 (t wl : Addr) (m : Nat) (nl : Addr) : List (Str × V) := [("tree", .ref t), ("weights", .ref wl), ("left", .int (m : Int)), ("next_posts", .ref nl)]
section
variable {t wl nl : Addr} {m : Nat} {w : Int}
theorem un_p1 : putF "tree" (.ref t) [] = unF1 t := rfl
theorem un_p2 : putF "weights" (.ref wl) (unF1 t) = unF2 t wl := by unfold unF1; rw [putF_ne ntw]; rfl
theorem un_p3 : putF "left" (.int (m : Int)) (unF2 t wl) = unF3 t wl m := by unfold unF2; rw [putF_ne ntl, putF_ne nwl]; rfl
theorem un_p4 : putF "next_posts" (.ref nl) (unF3 t wl m) = unF4 t wl m nl := by unfold unF3; rw [putF_ne ntn, putF_ne nwn, putF_ne nln]; rfl
theorem un_p5 : putF "ways" (.int w) (unF4 t wl m nl) = unF t wl m nl w := by unfold unF4; rw [putF_ne nty, putF_ne nwy, putF_ne nly, putF_ne nny]; rfl
end
theorem mem_le_sum : ∀ {l : List Nat} {a : Nat}, a ∈ l → a ≤ l.sum
  | b :: l, a, h => by
    rw [List.sum_cons]
    rcases List.mem_cons.mp h with h | h
    · omega
    · have := mem_le_sum h; omega
theorem wt_head_le {n : Nat} {par : Nat → Nat} (hp : ∀ k, 0 < k → par k < k) (h : 0 < n) : ∀ p, p < n → wt n par p ≤ n := by
  intro p
  induction p using Nat.strongRecOn with
  | ind p ih =>
    intro hpn
    rcases Nat.eq_zero_or_pos p with h0 | h0
    · rw [h0, wt_head hp h]; exact Nat.le_refl _
    · have h1 := hp p h0
      have h2 := ih (par p) h1 (by omega)
      rw [wt_eq hp (show par p < n by omega)] at h2
      have h3 : wt n par p ≤ ((kids n par (par p)).map (wt n par)).sum := mem_le_sum (List.mem_map.mpr ⟨p, mem_kids.mpr ⟨hpn, h0, rfl⟩, rfl⟩)
      omega
theorem prod_le {n : Nat} {par : Nat → Nat} (hp : ∀ k, 0 < k → par k < k) (h : 0 < n) : ((List.range n).map (wt n par)).prod ≤ fact n := by
  rw [← PR_start hp h, ← cnt_hook hp n [0] (Fr.start hp h)]
  refine Nat.le_mul_of_pos_left _ (Nat.pos_of_ne_zero fun e => ?_)
  have := cnt_hook hp n [0] (Fr.start hp h)
  rw [e, Nat.zero_mul] at this
  have pos : ∀ m, 0 < fact m := fun m => by
    induction m with
    | zero => decide
    | succ m ih => exact Nat.mul_pos (by omega) ih
  have := pos n
  omega
end K89
namespace K89
theorem nd_len {n : Nat} {l : List Nat} (nd : l.Nodup) (h : ∀ p ∈ l, p < n) : l.length ≤ n := by
  have := nd.length_le_of_subset fun k hk => List.mem_range.mpr (h k hk)
  rwa [List.length_range] at this
end K89
set_option Elab.async false
set_option linter.all false
set_option maxRecDepth 100000
set_option maxHeartbeats 1000000
namespace K89
open PySem PySem.Spec PyProof.Rows L2
/-! ### Office -/
def ofF (c v pl dl : Addr) : List (Str × V) := [("above", .ref c), ("now", .ref v), ("past", .ref pl), ("done", .ref dl)]
theorem oan : ¬ (("above" : Str) = "now") := by decide +kernel
theorem oap : ¬ (("above" : Str) = "past") := by decide +kernel
theorem oad : ¬ (("above" : Str) = "done") := by decide +kernel
theorem onp : ¬ (("now" : Str) = "past") := by decide +kernel
theorem ond : ¬ (("now" : Str) = "done") := by decide +kernel
theorem opd : ¬ (("past" : Str) = "done") := by decide +kernel
def ofF1 (c : Addr) : List (Str × V) := [("above", .ref c)]
def ofF2 (c v : Addr) : List (Str × V) := [("above", .ref c), ("now", .ref v)]
def ofF3 (c v pl : Addr) : List (Str × V) := [("above", .ref c), ("now", .ref v), ("past", .ref pl)]
section
variable {c v v' pl dl dl' : Addr}
theorem of_p2 : putF "now" (.ref v) (ofF1 c) = ofF2 c v := by unfold ofF1; rw [putF_ne oan]; rfl
theorem of_p3 : putF "past" (.ref pl) (ofF2 c v) = ofF3 c v pl := by unfold ofF2; rw [putF_ne oap, putF_ne onp]; rfl
theorem of_p4 : putF "done" (.ref dl) (ofF3 c v pl) = ofF c v pl dl := by unfold ofF3; rw [putF_ne oad, putF_ne ond, putF_ne opd]; rfl
theorem of_now : putF "now" (.ref v') (ofF c v pl dl) = ofF c v' pl dl := by unfold ofF; rw [putF_ne oan, putF_eq rfl]
theorem of_done : putF "done" (.ref dl') (ofF c v pl dl) = ofF c v pl dl' := by unfold ofF; rw [putF_ne oad, putF_ne ond, putF_ne opd, putF_eq rfl]
theorem of_ga : (ofF c v pl dl).lookup ("above" : Str) = some (.ref c) := lk_eq rfl
theorem of_gn : (ofF c v pl dl).lookup ("now" : Str) = some (.ref v) := (lk_ne oan).trans (lk_eq rfl)
theorem of_gp : (ofF c v pl dl).lookup ("past" : Str) = some (.ref pl) := (lk_ne oap).trans ((lk_ne onp).trans (lk_eq rfl))
theorem of_gd : (ofF c v pl dl).lookup ("done" : Str) = some (.ref dl) := (lk_ne oad).trans ((lk_ne ond).trans ((lk_ne opd).trans (lk_eq rfl)))
theorem of_no {x : Str} (h1 : ¬ ("above" : Str) = x) (h2 : ¬ ("now" : Str) = x) (h3 : ¬ ("past" : Str) = x) (h4 : ¬ ("done" : Str) = x) : (ofF c v pl dl).lookup x = none :=
  (lk_ne h1).trans ((lk_ne h2).trans ((lk_ne h3).trans ((lk_ne h4).trans rfl)))
end
/-- what was: the tuple's place, the arrangement's, how much was done -/
abbrev Past := List (Addr × Addr × Nat)
/-- an office at o, behind G -/
structure OffAt (CO : Addr) (G H : Hp) (o c v pl dl : Addr) (ps : Past) (ds : Nat) : Prop where
  sm : Same G H
  no : G o = none
  np : G pl = none
  nd : G dl = none
  opl : pl ≠ dl
  at_ : ∃ dx, H o = some (.ins CO dx (ofF c v pl dl))
  pst : H pl = some (.lst (ps.map fun q => V.ref q.1))
  ent : ∀ q ∈ ps, H q.1 = some (.tup [.ref q.2.1, .int (q.2.2 : Int)])
  don : ∃ xs, H dl = some (.lst xs) ∧ xs.length = ds
/-- all but what stands in l -/
def dropL (H : Hp) (l : List Addr) : Hp := fun b => if b ∈ l then none else H b
theorem dropL_at {H : Hp} {l : List Addr} {b : Addr} (h : b ∈ l) : dropL H l b = none := by unfold dropL; rw [if_pos h]
theorem dropL_ne {H : Hp} {l : List Addr} {b : Addr} (h : b ∉ l) : dropL H l b = H b := by unfold dropL; rw [if_neg h]
theorem dropL_same {H : Hp} {l : List Addr} : Same (dropL H l) H := fun b o e => by
  by_cases h : b ∈ l
  · rw [dropL_at h] at e; cases e
  · rwa [dropL_ne h] at e
theorem to_dropL {G H : Hp} {l : List Addr} (s : Same G H) (h : ∀ b ∈ l, G b = none) : Same G (dropL H l) := fun b o e => by
  rw [dropL_ne (fun z => by rw [h b z] at e; cases e)]
  exact s b o e
theorem OffAt.re {CO : Addr} {G G' H : Hp} {o c v pl dl : Addr} {ps : Past} {ds : Nat} (a : OffAt CO G H o c v pl dl ps ds) (s : Same G' H) (h1 : G' o = none) (h2 : G' pl = none) (h3 : G' dl = none) : OffAt CO G' H o c v pl dl ps ds :=
  ⟨s, h1, h2, h3, a.opl, a.at_, a.pst, a.ent, a.don⟩
theorem OffAt.drop {CO : Addr} {G H : Hp} {o c v pl dl : Addr} {ps : Past} {ds : Nat} (a : OffAt CO G H o c v pl dl ps ds) : OffAt CO (dropL H [o, pl, dl]) H o c v pl dl ps ds :=
  a.re dropL_same (dropL_at (by simp)) (dropL_at (by simp)) (dropL_at (by simp))
theorem OffAt.mono {CO : Addr} {G H H' : Hp} {o c v pl dl : Addr} {ps : Past} {ds : Nat} (a : OffAt CO G H o c v pl dl ps ds) (s : Same H H') : OffAt CO G H' o c v pl dl ps ds := by
  obtain ⟨dx, e⟩ := a.at_
  obtain ⟨xs, e2, e3⟩ := a.don
  exact ⟨a.sm.trans s, a.no, a.np, a.nd, a.opl, ⟨dx, s _ _ e⟩, s _ _ a.pst, fun q h => s _ _ (a.ent q h), xs, s _ _ e2, e3⟩
theorem OffAt.in_drop {CO : Addr} {G H : Hp} {o c v pl dl : Addr} {ps : Past} {ds : Nat} (a : OffAt CO G H o c v pl dl ps ds) : Same G (dropL H [o, pl, dl]) :=
  to_dropL a.sm fun b hb => by
    simp at hb
    rcases hb with rfl | rfl | rfl
    · exact a.no
    · exact a.np
    · exact a.nd
theorem OffAt.opl' {CO : Addr} {G H : Hp} {o c v pl dl : Addr} {ps : Past} {ds : Nat} (a : OffAt CO G H o c v pl dl ps ds) : o ≠ pl ∧ o ≠ dl := by
  obtain ⟨dx, e⟩ := a.at_
  obtain ⟨xs, e2, _⟩ := a.don
  exact ⟨ne_of e a.pst (fun z => nomatch z), ne_of e e2 (fun z => nomatch z)⟩
/-! ### cls(..), C.m(..) -/
def CalCM (P : Program) (w : World) (K : PySem.W.Frag) (mg : Str → Option Value) (base : Heap) (k : Nat) (x : Str) (C : Addr) (m : Str) (sp : Sp) : Prop :=
  mg x = some (.ref C) ∧ ∃ (mc : Value) (p g : Addr), ClX.CRead K C mc ∧ ClX.CMet K C mc m p g ∧ FnR P w K mg base CX0 k g sp
/-- a classmethod's def -/
def Dc (K : PySem.W.Frag) (mg : Str → Option Value) (x : Str) (C : Addr) (m qual : Str) (st : Stmt) : Prop :=
  mg x = some (.ref C) ∧ ∃ (mc : Value) (p g : Addr) (fd : FuncData), ClX.CRead K C mc ∧ ClX.CMet K C mc m p g ∧ Fun K m qual st g fd
section
variable {P : Program} {w : World} {K : PySem.W.Frag} {mg : Str → Option Value} {base : Heap} {k : Nat} {x m qual : Str} {st : Stmt} {C : Addr} {N ps : List Str} {sp : Sp}
theorem Dc.ok (D : Dc K mg x C m qual st) (S : FnScope N ps (defScope st)) (hb : HB st m qual ps) (len : ∀ vs H Q E, sp vs H Q E → vs.length = ps.length) (hbody : HBody P w K mg base k qual st N sp) : CalCM P w K mg base (k + 1) x C m sp := by
  obtain ⟨c, mc, p, g, fd, cr, cm, F⟩ := D
  refine ⟨c, mc, p, g, cr, cm, ?_⟩
  have h := (F.ok S len (hbody g)).raw (F.binds hb) .nil
  intro A outer s H us vs Q E hr e0 r hs
  exact h A outer s H us vs Q E hr e0 r (by show sp (vs ++ []) H Q E; rw [List.append_nil]; exact hs)
end
section
variable {X : Cx} {k i : Nat} {C : Addr} {ps : List Str} {sp : Sp} {x m y : Str} {p pos apos : Pos} {e : Expr} {es : List Expr} {t : TA}
def tMkL (i : Nat) (C : Addr) (sp : Sp) (t : TA) : TE := fun σ H Q => σ[i]? = some (some (.ref C)) ∧ tMake C sp [] E0 t σ H Q
theorem pe_mkL (c : CalI X.prog X.w X.K X.mg X.base k y C ps sp) (hr : Room (k + 1) X.A) (hN : X.N[i]? = some x) (hv : Vis X.env.scope x) (ha : PA X (e :: es) t)
    (hdb : (x == ("__debug__" : Str)) = false := by decide) (hcd : (x == ("__classdict__" : Str)) = false := by decide)
    (he : starEach (e :: es) X.env = (false, eval e X.env) :: starEach es X.env := by rfl) (hpl : (backTo pos (starEach es X.env)).any (·.1) = false := by rfl) : PE X (.Call (.Name x p) (e :: es) [] pos) (tMkL i C sp t) := by
  obtain ⟨_, f, fd, M, hb, F⟩ := c
  refine ⟨fun pins s σ H Q I h => ?_⟩
  obtain ⟨hs, ht⟩ := h
  refine wpAny_Call_Name_kw (thn ((pe_var (pos := p) hN hv hdb hcd).run pins s σ H (fun v H1 => v = .ref C ∧ H1 = H) I ⟨.ref C, hs, rfl, rfl⟩) fun u s1 ⟨v, H1, I1, r1, q1⟩ => ?_)
  obtain ⟨rfl, rfl⟩ := q1
  cases r1
  refine PySem.W.callWith_K (h₀ := X.base) I.ok.mod.kin M.kp (thn (ha.run pos pins s1 σ _ _ I1 ht) fun us s2 ⟨vs, H2, I2, r, q⟩ => ⟨I2.kIn, ?_⟩) he hpl
  exact run_make M F hr hb .nil pass0 I2 r q
theorem pe_ccm {pl : Sem Bool} (c : CalCM X.prog X.w X.K X.mg X.base k x C m sp) (hr : Room k X.A) (hg : Gl X x) (ha : PA X (e :: es) t)
    (hst : starEach (e :: es) X.env = (false, eval e X.env) :: starEach es X.env := by rfl) (hpl : (backTo pos (starEach es X.env)).any (·.1) = false := by rfl)
    (hdb : (x == ("__debug__" : Str)) = false := by decide)
    (ht : eval (.Call (.Attribute (.Name x p) m apos) (e :: es) [] pos) X.env = (do
      let ov ← eval (.Name x p) X.env
      standAt apos.atName
      let (f, first) ← holding [ov] (getMethod ov m pl)
      callWith pos f first (backTo pos (starEach (e :: es) X.env)) (backToKw pos (keywordEach [] X.env))) := by rfl) :
    PE X (.Call (.Attribute (.Name x p) m apos) (e :: es) [] pos) (ClX.tCMeth C sp E0 (tC (.ref C)) t) := by
  obtain ⟨hm, mc, q, g, cr, cm, F⟩ := c
  exact ClX.pe_cmeth (pe_glob hg hm rfl hdb) cr cm F hr pass0 ha hst hpl ht
end
end K89
set_option Elab.async false
set_option linter.all false
set_option maxRecDepth 100000
namespace K89
/-- who stands where when the people take their posts in this order -/
def arOf (ord xs : List Nat) : Fn := fun k => xs[ord.idxOf k]?
section
variable {n : Nat} {par : Nat → Nat} {ord xs : List Nat}
theorem arOf_at (nd : ord.Nodup) {i : Nat} (h : i < ord.length) : arOf ord xs ord[i] = xs[i]? := by
  unfold arOf
  rw [nd.idxOf_getElem i h]
theorem arOf_some (o : Ord n par ord) (hl : xs.length = n) {k : Nat} (hk : k < n) : ∃ i, ∃ (h1 : i < ord.length) (h2 : i < xs.length), ord[i] = k ∧ arOf ord xs k = some xs[i] := by
  obtain ⟨i, hi, e⟩ := List.mem_iff_getElem.mp (o.all k hk)
  have h2 : i < xs.length := by rw [hl, ← o.len]; exact hi
  refine ⟨i, hi, h2, e, ?_⟩
  rw [← e, arOf_at o.nd hi, List.getElem?_eq_getElem h2]
theorem sorted_inj {l : List Nat} (h : l.Pairwise (· < ·)) {i j : Nat} (hi : i < l.length) (hj : j < l.length) (e : l[i] = l[j]) : i = j := by
  rcases Nat.lt_trichotomy i j with q | q | q
  · have := List.pairwise_iff_getElem.mp h i j hi hj q; omega
  · exact q
  · have := List.pairwise_iff_getElem.mp h j i hj hi q; omega
theorem arOf_arr (hp : ∀ k, 0 < k → par k < k) (o : Ord n par ord) (hl : xs.length = n) (so : xs.Pairwise (· < ·)) : Arr n par (arOf ord xs) where
  ord := fun k x h0 hk e => by
    obtain ⟨i, h1, h2, e1, e2⟩ := arOf_some (xs := xs) o hl hk
    rw [e2] at e
    cases e
    have hup := o.up i h1 (by omega)
    rw [e1] at hup
    obtain ⟨j, hj, ej⟩ := List.mem_take_iff_getElem.mp hup
    have hji : j < i := by omega
    have hjl : j < ord.length := by omega
    refine ⟨xs[j], ?_, List.pairwise_iff_getElem.mp so j i (by omega) h2 hji⟩
    rw [← ej, arOf_at o.nd hjl, List.getElem?_eq_getElem (by omega)]
  inj := fun a b x ha hb ea eb => by
    obtain ⟨i, h1, h2, e1, e2⟩ := arOf_some (xs := xs) o hl ha
    obtain ⟨j, h3, h4, e3, e4⟩ := arOf_some (xs := xs) o hl hb
    rw [e2] at ea
    rw [e4] at eb
    have : xs[i] = xs[j] := by rw [Option.some.inj ea, Option.some.inj eb]
    have := sorted_inj so h2 h4 this
    subst this
    rw [← e1, ← e3]
theorem arOf_people (hp : ∀ k, 0 < k → par k < k) (o : Ord n par ord) (hl : xs.length = n) (so : xs.Pairwise (· < ·)) : PeopleOf n (arOf ord xs) xs where
  sort := so
  mem := fun y => by
    constructor
    · intro hy
      obtain ⟨i, hi, e⟩ := List.mem_iff_getElem.mp hy
      have h1 : i < ord.length := by rw [o.len, ← hl]; exact hi
      exact ⟨ord[i], o.lt _ (List.getElem_mem h1), by rw [arOf_at o.nd h1, List.getElem?_eq_getElem hi, e]⟩
    · rintro ⟨k, hk, e⟩
      obtain ⟨i, h1, h2, e1, e2⟩ := arOf_some (xs := xs) o hl hk
      rw [e2] at e
      cases e
      exact List.getElem_mem h2
theorem arOf_rows (hp : ∀ k, 0 < k → par k < k) (o : Ord n par ord) (hl : xs.length = n) (so : xs.Pairwise (· < ·)) : RowsOf n (arOf ord xs) ord where
  mem := fun k => by
    constructor
    · intro hk
      obtain ⟨i, h1, h2, e1, e2⟩ := arOf_some (xs := xs) o hl (o.lt k hk)
      exact ⟨o.lt k hk, _, e2⟩
    · rintro ⟨hk, _⟩
      exact o.all k hk
  sort := by
    refine List.pairwise_map.mpr (List.pairwise_iff_getElem.mpr fun i j hi hj hij => ?_)
    have h1 : i < xs.length := by rw [hl, ← o.len]; exact hi
    have h2 : j < xs.length := by rw [hl, ← o.len]; exact hj
    rw [arOf_at o.nd hi, arOf_at o.nd hj, List.getElem?_eq_getElem h1, List.getElem?_eq_getElem h2]
    exact List.pairwise_iff_getElem.mp so i j h1 h2 hij

/-! ### leaving: who is left, what is held -/
variable {A A' : Fn} {x e : Nat}
/-- the head of an arrangement holds the most senior -/
theorem head_first (hp : ∀ k, 0 < k → par k < k) (a : Arr n par A) {y : Nat} {l : List Nat} (p : PeopleOf n A (y :: l)) (h : 0 < n) : A 0 = some y := by
  obtain ⟨k, hk, ek⟩ := (p.mem y).mp List.mem_cons_self
  have h0 : 0 ∈ ups par k := by
    have : ∀ k, 0 ∈ ups par k := by
      intro k
      induction k using Nat.strongRecOn with
      | ind k ih =>
        rcases Nat.eq_zero_or_pos k with h | h
        · rw [h, ups_zero hp]; simp
        · rw [ups_pos hp h]
          exact List.mem_cons_of_mem _ (ih (par k) (hp k h))
    exact this k
  obtain ⟨z, e1, h1, h2⟩ := a.above hp hk ek h0
  have hz : z ∈ y :: l := (p.mem z).mpr ⟨0, h, e1⟩
  rcases List.mem_cons.mp hz with h3 | h3
  · rw [e1, h3]
  · have := (List.pairwise_cons.mp p.sort).1 z h3
    omega
theorem left_people (lf : Left n par A x A' e) {l : List Nat} (p : PeopleOf n A (x :: l)) : PeopleOf n A' l where
  sort := (List.pairwise_cons.mp p.sort).2
  mem := fun y => by
    rw [lf.who, ← p.mem]
    constructor
    · intro h
      have := (List.pairwise_cons.mp p.sort).1 y h
      exact ⟨List.mem_cons_of_mem _ h, by omega⟩
    · rintro ⟨h1, h2⟩
      rcases List.mem_cons.mp h1 with h | h
      · exact absurd h h2
      · exact h
theorem left_held (hp : ∀ k, 0 < k → par k < k) (lf : Left n par A x A' e) (k : Nat) : (∃ y, A' k = some y) ↔ (∃ y, A k = some y) ∧ k ≠ e := by
  constructor
  · rintro ⟨y, h⟩
    refine ⟨?_, fun h2 => ?_⟩
    · cases e2 : A k with
      | some z => exact ⟨z, rfl⟩
      | none => rw [lf.empty k e2] at h; cases h
    · rw [h2, lf.nil] at h; cases h
  · rintro ⟨⟨y, h⟩, h2⟩
    by_cases hm : k ∈ ups par e
    · rw [ups_head hp] at hm
      rcases List.mem_cons.mp hm with h3 | h3
      · exact absurd h3 h2
      · exact lf.full k h3
    · rw [lf.same k hm]
      exact ⟨y, h⟩
end
end K89
namespace K89
theorem erase_perm : ∀ {l : List Nat} {i : Nat} (h : i < l.length), l.Perm (l[i] :: l.eraseIdx i)
  | a :: l, 0, _ => by simp
  | a :: l, i + 1, h => by
    have h' : i < l.length := by simpa using h
    simp only [List.getElem_cons_succ, List.eraseIdx_cons_succ]
    exact ((erase_perm h').cons a).trans (List.Perm.swap _ _ _)
theorem map_eraseIdx {α β : Type} (f : α → β) : ∀ (l : List α) (i : Nat), (l.map f).eraseIdx i = (l.eraseIdx i).map f
  | [], _ => rfl
  | a :: l, 0 => rfl
  | a :: l, i + 1 => by simp only [List.map_cons, List.eraseIdx_cons_succ, map_eraseIdx f l i]
end K89
namespace K89
/-- one after another leaves; where each time a post is emptied -/
inductive Lvs (n : Nat) (par : Nat → Nat) (A : Fn) : List Nat → List Nat → Fn → Prop
  | nil : Lvs n par A [] [] A
  | snoc {xs es : List Nat} {x e : Nat} {B B' : Fn} : Lvs n par A xs es B → Left n par B x B' e → Lvs n par A (xs ++ [x]) (es ++ [e]) B'
theorem Lvs.last {n : Nat} {par : Nat → Nat} {A B : Fn} {xs es : List Nat} {x e : Nat} (h : Lvs n par A (xs ++ [x]) (es ++ [e]) B) : ∃ B0, Lvs n par A xs es B0 ∧ Left n par B0 x B e := by
  generalize ha : xs ++ [x] = l1 at h
  generalize hb : es ++ [e] = l2 at h
  cases h with
  | nil => simp at ha
  | snoc h1 h2 =>
    obtain ⟨e1, e2⟩ := List.append_inj' ha rfl
    obtain ⟨e3, e4⟩ := List.append_inj' hb rfl
    simp at e2 e4
    subst e1 e2 e3 e4
    exact ⟨_, h1, h2⟩
theorem Lvs.nil_eq {n : Nat} {par : Nat → Nat} {A B : Fn} (h : Lvs n par A [] [] B) : B = A := by
  have : ∀ l1 l2 : List Nat, Lvs n par A l1 l2 B → l1 = [] → B = A := fun l1 l2 h e => by
    cases h with
    | nil => rfl
    | snoc _ _ => simp at e
  exact this _ _ h rfl
theorem Lvs.len {n : Nat} {par : Nat → Nat} {A B : Fn} {xs es : List Nat} (h : Lvs n par A xs es B) : xs.length = es.length := by
  induction h with
  | nil => rfl
  | snoc _ _ ih => simp [ih]
/-- the walk back: the last of what is left -/
theorem Lvs.back {n : Nat} {par : Nat → Nat} {A B : Fn} {xs es : List Nat} {j : Nat} (hl : xs.length = es.length) (hj : j < xs.length) (h : Lvs n par A (xs.take (xs.length - j)) (es.take (xs.length - j)) B) :
    ∃ B0 x e, xs.reverse[j]? = some x ∧ es.reverse[j]? = some e ∧ Left n par B0 x B e ∧ Lvs n par A (xs.take (xs.length - (j + 1))) (es.take (xs.length - (j + 1))) B0 := by
  have h1 : xs.length - 1 - j < xs.length := by omega
  have h2 : xs.length - 1 - j < es.length := by omega
  have e1 : xs.take (xs.length - j) = xs.take (xs.length - (j + 1)) ++ [xs[xs.length - 1 - j]] := by
    rw [show xs.length - j = (xs.length - 1 - j) + 1 by omega, List.take_succ, List.getElem?_eq_getElem h1, show xs.length - (j + 1) = xs.length - 1 - j by omega]
    rfl
  have e2 : es.take (xs.length - j) = es.take (xs.length - (j + 1)) ++ [es[xs.length - 1 - j]] := by
    rw [show xs.length - j = (xs.length - 1 - j) + 1 by omega, List.take_succ, List.getElem?_eq_getElem h2, show xs.length - (j + 1) = xs.length - 1 - j by omega]
    rfl
  rw [e1, e2] at h
  obtain ⟨B0, h3, h4⟩ := h.last
  refine ⟨B0, _, _, ?_, ?_, h4, h3⟩
  · rw [List.getElem?_reverse hj, List.getElem?_eq_getElem h1]
  · rw [List.getElem?_reverse (by omega), ← hl, List.getElem?_eq_getElem h2]
end K89
set_option Elab.async false
set_option linter.all false
set_option maxRecDepth 100000
set_option maxHeartbeats 1000000
namespace K89
open PySem PySem.Spec PyProof.Rows L2
/-- len(o), o an instance whose class has a __len__ -/
def rLenO (C : Addr) (sp : Sp) : List V → Hp → VK → Prop := fun xs H Q => ∃ a dx fs, xs = [.ref a] ∧ H a = some (.ins C dx fs) ∧ sp [.ref a] H (fun v H' => ∃ n : Nat, v = .int (n : Int) ∧ n < 2 ^ 62 ∧ Q v H') E0
theorem call_lenO {X : Cx} {k : Nat} {C : Addr} {sp : Sp} (c : CalM X.prog X.w X.K X.mg X.base k C "__len__" ["self"] sp) (hr : Room (k + 1) X.A) : CallR X (.builtin "len") (rLenO C sp) := by
  intro pins s σ H xs us Q I r h
  obtain ⟨a, dx, fs, rfl, ea, hsp⟩ := h
  obtain ⟨u, rfl, ru⟩ := vals1 r
  obtain rfl : u = Value.ref a := ru
  obtain ⟨cc, f, fd, hm, hb, F⟩ := c
  obtain ⟨mA, O, _, _, _, _⟩ := ins_get I.hok ea
  obtain ⟨od, J, _⟩ := O.look
  obtain ⟨m, fr⟩ := I.fr
  refine PySem.W.len_K fr I.ok.mod.kin J hm.at_ hm.fn (wpAny_call ?_)
  refine codeAny_mono (F.run X.A.in1 X.stack s H ⟨[.ref a], []⟩ [.ref a] [.ref a] _ E0 hr.in1 I.env0.in1 (hb s [.ref a] I.kIn rfl) (.cons rfl .nil) hsp) fun res s' hq => ?_
  cases res with
  | error e => exact False.elim hq
  | ok fl =>
    cases fl with
    | ret u =>
      obtain ⟨v, H', I3, rv, n, ev, hn, q3⟩ := I.after hq
      subst ev
      obtain ⟨t, rfl⟩ := rv
      exact ⟨⟨by omega, by omega⟩, .int (n : Int), H', I3.tok _, ⟨_, rfl⟩, q3⟩
    | next => exact False.elim hq
    | brk => exact False.elim hq
    | cont => exact False.elim hq
theorem tuple_mul1 (l : Addr) (items : Array Value) (n : Nat) (dd : Option Addr) (sl : Array (Option Value)) (u : Tok) :
    Meets (Builtin.«tuple.__mul__» ⟨[.ref l, .int 1 u], []⟩) (fun _ R s => s.heap.get? l = some { cls := .type "tuple", dict := dd, data := .seq items n, slots := sl } ∧ R (.ok (.ret (Value.ref l))) s) :=
  .of_wp fun prog w A R s h => by
    obtain ⟨hp, g, d, tk, os⟩ := s
    obtain ⟨hl, h⟩ := h
    have f1 := AutoSeq1.idx_int
    have c0 : (decide ((1 : Int) < -(2 ^ 63)) || decide ((1 : Int) ≥ 2 ^ 63)) = false := by decide
    have c1 : (items.isEmpty || (1 : Int) == 1) = true := by simp
    wp_walk using wpAny_loadPart' hl
    repeat (first
      | (refine wpAny_ite_false (decide_eq_false (by rw [c0]; exact Bool.false_ne_true)) ?_; wp_walk using wpAny_loadPart' hl)
      | (refine wpAny_ite_true (decide_eq_true (by rw [c1])) ?_; wp_walk using wpAny_loadPart' hl))
    exact ⟨_, rfl, h⟩
end K89
namespace K89
open PySem PySem.Spec PyProof.Rows L2
def rRepA (K : PySem.W.Frag) : R2 := fun x y H Q => ∃ l k xs, x = .ref l ∧ y = .int k ∧ SqT K H l xs ∧ xs ≠ [] ∧ 1 ≤ k ∧ k ≤ 1000 ∧ xs.length ≤ 1000 ∧ (k = 1 → Q (.ref l) H) ∧ (2 ≤ k → ∀ p, H p = none → Q (.ref p) (upd H p (.tup (List.replicate k.toNat xs).flatten)))
theorem op_repA {X : Cx} : OpR X (binaryOp .Mult) (rRepA X.K) := by
  intro pins s σ H x y v u Q I rx ry h
  obtain ⟨l, k, xs, rfl, rfl, hT, hne, h1, h2, hz, q1, q2⟩ := h
  by_cases hk : 2 ≤ k
  · exact op_repT pins s σ H _ _ v u Q I rx ry ⟨l, k, xs, rfl, rfl, hT, hne, hk, h2, hz, q2 hk⟩
  · obtain rfl : k = 1 := by omega
    cases rx
    obtain ⟨t, rfl⟩ := ry
    obtain ⟨its, r, ⟨⟨cls, dd, data, sl⟩, ho, hc, n, hd⟩, hs⟩ := I.tuple hT
    simp only at hc hd
    subst hc hd
    refine wpAny_binaryOp_repeat_ref (T := "tuple") (U := "int") (by decide) ⟨_, ho, rfl⟩ (fun s' => typeIs_int s' 1 t) noFill_tuple_mul F.fills_int_mul F.slot_int_rmul repeat_tuple F.slot_int_index.lookup
      (call_meets F.slot_int_rmul (typeIs_int s 1 t) F.entry_int_rmul (F.args_int_rmul_2 _ _) (int_rmul_tuple 1 t l its.toArray n dd sl)
        ⟨ho, rfl, ⟨_, ho, rfl⟩, call_meets F.slot_tuple_mul ⟨_, ho, rfl⟩ F.entry_tuple_mul (F.args_tuple_mul_2 _ _) (tuple_mul1 l its.toArray n dd sl t) ⟨ho, ?_⟩⟩)
    exact ⟨.ref l, H, I, rfl, q1 rfl⟩
theorem AT.drop {H : Hp} {v : Addr} {n : Nat} {A : Nat → Option Nat} {l : List Addr} (h : AT H v n A) (hv : v ∉ l) : AT (dropL H l) v n A := by
  obtain ⟨ob, h1, h2⟩ := h
  exact ⟨ob, h1, (dropL_ne hv).trans h2⟩
/-- an arrangement is none of the office's own things -/
theorem OffAt.nar {CO : Addr} {G H : Hp} {o c v pl dl : Addr} {ps : Past} {ds : Nat} (a : OffAt CO G H o c v pl dl ps ds) {u : Addr} {n : Nat} {A : Nat → Option Nat} (hu : AT H u n A) : u ∉ [o, pl, dl] := by
  obtain ⟨ob, _, h2⟩ := hu
  obtain ⟨dx, e⟩ := a.at_
  obtain ⟨xs, e2, _⟩ := a.don
  intro hm
  simp at hm
  rcases hm with rfl | rfl | rfl
  · rw [e] at h2; cases h2
  · rw [a.pst] at h2; cases h2
  · rw [e2] at h2; cases h2
end K89
set_option Elab.async false
set_option linter.all false
set_option maxRecDepth 100000
set_option maxHeartbeats 1000000
namespace K89
open PySem PySem.Spec PyProof.Rows L2
theorem OffAt.monoG {CO : Addr} {G H H' : Hp} {o c v pl dl g : Addr} {ps : Past} {ds : Nat} {l : List V} (a : OffAt CO G H o c v pl dl ps ds) (s : Same (drop1 H g) H') (hg : H g = some (.lst l)) (ng : G g = none) (h1 : g ≠ pl) (h2 : g ≠ dl) : OffAt CO G H' o c v pl dl ps ds := by
  obtain ⟨dx, e⟩ := a.at_
  obtain ⟨xs, e2, e3⟩ := a.don
  have og : o ≠ g := ne_of e hg (fun z => nomatch z)
  exact ⟨(to_drop a.sm ng).trans s, a.no, a.np, a.nd, a.opl, ⟨dx, s _ _ ((drop_ne og).trans e)⟩, s _ _ ((drop_ne h1.symm).trans a.pst), fun q h => s _ _ ((drop_ne (ne_of (a.ent q h) hg (fun z => nomatch z))).trans (a.ent q h)), xs, s _ _ ((drop_ne h2.symm).trans e2), e3⟩
/-- another list of the caller's changes -/
theorem OffAt.put {CO : Addr} {G H : Hp} {o c v pl dl g : Addr} {ps : Past} {ds : Nat} {l l' : List V} (a : OffAt CO G H o c v pl dl ps ds) (hg : H g = some (.lst l)) (ng : G g = none) (h1 : g ≠ pl) (h2 : g ≠ dl) : OffAt CO G (upd H g (.lst l')) o c v pl dl ps ds :=
  a.monoG (drop_same.put drop_at) hg ng h1 h2
theorem AT.monoG {H H' : Hp} {v g : Addr} {n : Nat} {A : Nat → Option Nat} {l : List V} (h : AT H v n A) (s : Same (drop1 H g) H') (hg : H g = some (.lst l)) : AT H' v n A := by
  obtain ⟨ob, h1, h2⟩ := h
  exact ⟨ob, h1, s _ _ ((drop_ne (ne_of h2 hg (fun z => nomatch z))).trans h2)⟩
theorem AT.put {H : Hp} {v g : Addr} {n : Nat} {A : Nat → Option Nat} {l l' : List V} (h : AT H v n A) (hg : H g = some (.lst l)) : AT (upd H g (.lst l')) v n A := h.monoG (drop_same.put drop_at) hg
theorem cut_to {l : List Nat} {i : Nat} : cutV (nV l) none (some (i : Int)) = nV (l.take i) := by
  unfold cutV
  rw [HT.sIx_nat, HT.sIx_none, nV_len, List.drop_zero, Nat.sub_zero, nV, nV, ← List.map_take]
  congr 1
  rcases Nat.le_total i l.length with h | h
  · rw [Nat.min_eq_left h]
  · rw [Nat.min_eq_right h, List.take_length, List.take_of_length_le h]
end K89
set_option Elab.async false
set_option linter.all false
set_option maxRecDepth 100000
set_option maxHeartbeats 1000000
namespace K89
open PySem PySem.Spec PyProof.Rows L2

def spWhole : Sp := fun vs H Q _ => ∃ k : Nat, vs = [.int (k : Int)] ∧ Q (.bl true) H
/-- a chart is handed in, nothing is found -/
def spChart : Sp := fun vs H Q _ => ∃ (a : Addr) (n : Nat) (par : Nat → Nat), vs = [.ref a] ∧ H a = some (.tup (chV n par)) ∧ Ch n par ∧ ∀ H', Same H H' → Q .non H'

section
variable {P : Program} {w : World} {K : PySem.W.Frag} {mg : Str → Option Value} {base : Heap} {CT CU CO : Addr}
abbrev s_is_whole : Stmt := top 13
abbrev N_is_whole : List Str := ["value"]
theorem sc_is_whole : FnScope N_is_whole ["value"] (defScope s_is_whole) := ⟨rfl, rfl, rfl, by decide +kernel, rfl, by decide +kernel, by decide +kernel⟩
theorem k_is_whole (T : Txt K mg CT CU CO) (D : Dg K mg "is_whole" s_is_whole) : Cal P w K mg base 1 "is_whole" ["value"] spWhole := by
  refine D.ok sc_is_whole (fun _ _ _ _ _ _ us hl => match us, hl with | [_], _ => rfl) (fun vs H Q E h => ?_) (fun f cdv A outer s H vs Q E hr h => ?_)
  · obtain ⟨k, rfl, _⟩ := h
    rfl
  · obtain ⟨k, rfl, q⟩ := h
    refine ⟨_, (pss_one (ps_ret (pe_and (pe_callB call_isi (by rfl) T.isinstance (by decide +kernel) (pa_cons (pv 0) (pa_cons (pe_bltn (v := .ty "int") (by rfl) T.int (by decide +kernel) rfl) pa_nil))) (pe_and (pe_not (pe_callB call_isi (by rfl) T.isinstance (by decide +kernel) (pa_cons (pv 0) (pa_cons (pe_bltn (v := .ty "bool") (by rfl) T.bool (by decide +kernel) rfl) pa_nil)))) (pe_one (pe_cmpR op_ge (pv 0) pe_int (nomark _))))))), ?_⟩
    refine ⟨_, rfl, _, _, _, _, true, rfl, .ty _, .base (.int _), kit_ty (by decide +kernel), true, rfl, iteT ?_⟩
    refine ⟨_, rfl, _, _, _, _, false, rfl, .ty _, .base (.int _), kit_ty (by decide +kernel), false, rfl, true, rfl, iteT ?_⟩
    refine ⟨_, rfl, _, _, rfl, rfl, ?_⟩
    show Q (.bl (decide ((0 : Int) ≤ (k : Int)))) H
    rw [decide_eq_true (Int.natCast_nonneg k)]
    exact q
abbrev s_is_person : Stmt := top 18
abbrev N_is_person : List Str := ["value"]
theorem sc_is_person : FnScope N_is_person ["value"] (defScope s_is_person) := ⟨rfl, rfl, rfl, by decide +kernel, rfl, by decide +kernel, by decide +kernel⟩
theorem k_is_person (T : Txt K mg CT CU CO) (D : Dg K mg "is_person" s_is_person) (c_is_whole : Cal P w K mg base 1 "is_whole" ["value"] spWhole) : Cal P w K mg base 2 "is_person" ["value"] spWhole := by
  refine D.ok sc_is_person (fun _ _ _ _ _ _ us hl => match us, hl with | [_], _ => rfl) (fun vs H Q E h => ?_) (fun f cdv A outer s H vs Q E hr h => ?_)
  · obtain ⟨k, rfl, _⟩ := h
    rfl
  · obtain ⟨k, rfl, q⟩ := h
    refine ⟨_, (pss_one (ps_ret (pe_cal c_is_whole (hr.mono (by decide)) (by rfl) (pa_cons (pv 0) pa_nil)))), ?_⟩
    exact ⟨_, rfl, k, rfl, q⟩
abbrev s_chart_fault : Stmt := top 14
abbrev N_chart_fault : List Str := ["value", "post", "above"]
theorem sc_chart_fault : FnScope N_chart_fault ["value"] (defScope s_chart_fault) := ⟨rfl, rfl, rfl, by decide +kernel, rfl, by decide +kernel, by decide +kernel⟩
theorem k_chart_fault (T : Txt K mg CT CU CO) (D : Dg K mg "chart_fault" s_chart_fault) (c_is_whole : Cal P w K mg base 1 "is_whole" ["value"] spWhole) : Cal P w K mg base 2 "chart_fault" ["value"] spChart := by
  refine D.ok sc_chart_fault (fun _ _ _ _ _ _ us hl => match us, hl with | [_], _ => rfl) (fun vs H Q E h => ?_) (fun f cdv A outer s H vs Q E hr h => ?_)
  · obtain ⟨a, n, par, rfl, _⟩ := h
    rfl
  · obtain ⟨a, n, par, rfl, ha, ch, q⟩ := h
    refine ⟨_, (pss_cons (ps_if (PW.pt (pw_or (pt_not (pt_val (pe_callB call_isi (by rfl) T.isinstance (by decide +kernel) (pa_cons (pv 0) (pa_cons (pe_bltn (v := .ty "tuple") (by rfl) T.tuple (by decide +kernel) rfl) pa_nil))))) (pw_or (pt_cmpR (op_eqNilT hr.units) (pv 0) (pe_tup pa_nil) (nomark _)) (pw_or1 (pt_cmpR op_notN (pe_ix ix_tup (pv 0) pe_int (fun _ _ => rfl)) pe_non (nomark _))))))
    pss_never pss_nil)
  (pss_cons (ps_for PassesOwn.never rfl (pi_enumT (by rfl) T.enumerate (pa_cons (pv 0) pa_nil)) (pg_tup (by rfl) (pgs_cons (pg_name (i := 1) sc_chart_fault.nd rfl (Or.inl rfl)) (pgs_cons (pg_name (i := 2) sc_chart_fault.nd rfl (Or.inl rfl)) pgs_nil)))
    (pss_one (ps_if (PW.pt (pw_and (pt_cmpR op_gt (pv 1) pe_int (nomark _)) (pw_and1 (PW.pt (pw_or (pt_not (pt_val (pe_cal c_is_whole (hr.mono (by decide)) (by rfl) (pa_cons (pv 2) pa_nil)))) (pw_or1 (pt_cmpR op_ge (pv 2) (pv 1) (nomark _))))))))
    pss_never pss_nil)))
  (pss_one (ps_ret pe_non)))), ?_⟩
    refine ⟨_, rfl, _, _, _, _, true, rfl, .ty _, .base (.tup ha), kit_ty (by decide +kernel), true, rfl, iteF ?_⟩
    refine ⟨_, rfl, Nat.zero_le _, fun p np => ⟨_, _, _, rfl, rfl, fl_ch, ch_ne ch.pos, SqT.of (Same.up (Same.refl H) np _ _ ha), SqT.of upd_same, false, rfl, iteF ?_⟩⟩
    have s1 := Same.up (o := .tup []) (Same.refl H) np
    refine ⟨_, rfl, _, _, _, _, rfl, rfl, SqT.of (s1 _ _ ha), at_ch0 ch.pos, rfl, false, rfl, iteF ?_⟩
    refine ⟨_, rfl, a, _, rfl, SqT.of (s1 _ _ ha), for_it walk_enumT (fun i σ H' => ∃ u v, σ = [some (.ref a), u, v] ∧ Same H H') ⟨_, _, rfl, s1⟩ (fun i σ H' _ ⟨_, _, _, sm⟩ => SqT.of (sm _ _ ha)) ?_ ?_⟩
    · rintro i x σ H1 H2 hi ⟨u, v, rfl, sm⟩ hy
      obtain ⟨T, y1, rfl, nT, rfl, e2⟩ := yen hy
      rw [chV_len] at hi
      rw [chV_get hi] at e2
      refine ⟨_, _, rfl, SqT.of upd_same, rfl, _, _, rfl, _, _, rfl, rfl, ?_⟩
      refine ⟨_, rfl, _, _, rfl, rfl, _, rfl, ?_⟩
      by_cases h0 : i = 0
      · refine ifF (decide_eq_false (by omega)) (iteF ?_)
        exact ⟨_, _, rfl, sm.up nT⟩
      · rw [if_neg h0] at e2
        cases e2
        refine ifT (decide_eq_true (by omega)) ?_
        refine ⟨_, rfl, _, rfl, true, rfl, iteF ?_⟩
        refine ⟨_, rfl, _, rfl, _, _, rfl, rfl, _, rfl, ?_⟩
        have := ch.par i (by omega)
        refine ifF (decide_eq_false (by omega)) ?_
        exact ⟨_, _, rfl, sm.up nT⟩
    · rintro σ H1 ⟨u, v, rfl, sm⟩
      exact q _ sm
abbrev s_require_chart : Stmt := top 15
abbrev N_require_chart : List Str := ["chart", "reason"]
theorem sc_require_chart : FnScope N_require_chart ["chart"] (defScope s_require_chart) := ⟨rfl, rfl, rfl, by decide +kernel, rfl, by decide +kernel, by decide +kernel⟩
theorem k_require_chart (T : Txt K mg CT CU CO) (D : Dg K mg "require_chart" s_require_chart) (c_chart_fault : Cal P w K mg base 2 "chart_fault" ["value"] spChart) : Cal P w K mg base 3 "require_chart" ["chart"] spChart := by
  refine D.ok sc_require_chart (fun _ _ _ _ _ _ us hl => match us, hl with | [_], _ => rfl) (fun vs H Q E h => ?_) (fun f cdv A outer s H vs Q E hr h => ?_)
  · obtain ⟨a, n, par, rfl, _⟩ := h
    rfl
  · obtain ⟨a, n, par, rfl, ha, ch, q⟩ := h
    refine ⟨_, (pss_cons (ps_set (i := 1) sc_require_chart.nd rfl (Or.inl rfl) (pe_cal c_chart_fault (hr.mono (by decide)) (by rfl) (pa_cons (pv 0) pa_nil)))
  (pss_one (ps_if (pt_cmpR op_notN (pv 1) pe_non (nomark _))
    pss_never pss_nil))), ?_⟩
    refine ⟨_, rfl, a, n, par, rfl, ha, ch, fun H' sm => ?_⟩
    exact ⟨_, rfl, rfl, false, rfl, iteF (q _ sm)⟩
end
end K89
set_option Elab.async false
set_option linter.all false
set_option maxRecDepth 100000
set_option maxHeartbeats 1000000
namespace K89
open PySem PySem.Spec PyProof.Rows L2

def spFirst : Sp := fun vs H Q _ => ∃ (x : V) (a : Addr) (m : Nat), vs = [x, .ref a] ∧ H a = some (.lst (List.replicate m (.bl false))) ∧ ∀ H', Same H H' → Q .non H'
def spRepeats : Sp := fun vs H Q _ => ∃ (a : Addr) (n : Nat) (A : Fn), vs = [.ref a] ∧ AT H a n A ∧ n ≤ 20 ∧ Inj n A ∧ ∀ H' p, Same H H' → H p = none → H' p = some (.lst (List.replicate n (.bl false))) → Q (.ref p) H'
def spOut : Sp := fun vs H Q _ => ∃ (c v : Addr) (n k : Nat) (par : Nat → Nat) (A : Fn), vs = [.ref c, .ref v, .int (k : Int)] ∧ H c = some (.tup (chV n par)) ∧ AT H v n A ∧ Ch n par ∧ Arr n par A ∧ k < n ∧ Q (.bl false) H
/-- a chart and an arrangement are handed in, nothing is found -/
def spArr : Sp := fun vs H Q _ => ∃ (c v : Addr) (n : Nat) (par : Nat → Nat) (A : Fn), vs = [.ref c, .ref v] ∧ H c = some (.tup (chV n par)) ∧ AT H v n A ∧ Ch n par ∧ Arr n par A ∧ ∀ H', Same H H' → Q .non H'

section
variable {P : Program} {w : World} {K : PySem.W.Frag} {mg : Str → Option Value} {base : Heap} {CT CU CO : Addr}
abbrev s_first_fault : Stmt := top 19
abbrev N_first_fault : List Str := ["word", "faults", "index", "fault"]
theorem sc_first_fault : FnScope N_first_fault ["word", "faults"] (defScope s_first_fault) := ⟨rfl, rfl, rfl, by decide +kernel, rfl, by decide +kernel, by decide +kernel⟩
theorem k_first_fault (T : Txt K mg CT CU CO) (D : Dg K mg "first_fault" s_first_fault) : Cal P w K mg base 1 "first_fault" ["word", "faults"] spFirst := by
  refine D.ok sc_first_fault (fun _ _ _ _ _ _ us hl => match us, hl with | [_, _], _ => rfl) (fun vs H Q E h => ?_) (fun f cdv A outer s H vs Q E hr h => ?_)
  · obtain ⟨x, a, m, rfl, _⟩ := h
    rfl
  · obtain ⟨x, a, m, rfl, ha, q⟩ := h
    refine ⟨_, (pss_cons (ps_for PassesOwn.never rfl (pi_enum (by rfl) T.enumerate (pa_cons (pv 1) pa_nil)) (pg_tup (by rfl) (pgs_cons (pg_name (i := 2) sc_first_fault.nd rfl (Or.inl rfl)) (pgs_cons (pg_name (i := 3) sc_first_fault.nd rfl (Or.inl rfl)) pgs_nil)))
    (pss_one (ps_if (pt_val (pv 3))
    pss_never pss_nil)))
  (pss_one (ps_ret pe_non))), ?_⟩
    refine ⟨_, rfl, a, _, rfl, SqL.of ha, for_it walk_enum (fun i σ H' => ∃ u v, σ = [some x, some (.ref a), u, v] ∧ Same H H') ⟨_, _, rfl, Same.refl H⟩ (fun i σ H' _ ⟨_, _, _, sm⟩ => SqL.of (sm _ _ ha)) ?_ ?_⟩
    · rintro i z σ H1 H2 hi ⟨u, v, rfl, sm⟩ hy
      obtain ⟨t, y1, rfl, nT, rfl, e2⟩ := yen hy
      rw [List.length_replicate] at hi
      rw [List.getElem?_replicate, if_pos hi] at e2
      cases e2
      exact ⟨_, _, rfl, SqT.of upd_same, rfl, _, _, rfl, _, _, rfl, rfl, _, rfl, false, rfl, iteF ⟨_, _, rfl, sm.up nT⟩⟩
    · rintro σ H1 ⟨u, v, rfl, sm⟩
      exact q _ sm
abbrev s_repeats : Stmt := top 20
abbrev N_repeats : List Str := ["items", "seen", "found", "item"]
theorem sc_repeats : FnScope N_repeats ["items"] (defScope s_repeats) := ⟨rfl, rfl, rfl, by decide +kernel, rfl, by decide +kernel, by decide +kernel⟩
theorem k_repeats (T : Txt K mg CT CU CO) (D : Dg K mg "repeats" s_repeats) : Cal P w K mg base 1 "repeats" ["items"] spRepeats := by
  refine D.ok sc_repeats (fun _ _ _ _ _ _ us hl => match us, hl with | [_], _ => rfl) (fun vs H Q E h => ?_) (fun f cdv A outer s H vs Q E hr h => ?_)
  · obtain ⟨a, n, A, rfl, _⟩ := h
    rfl
  · obtain ⟨a, n, A, rfl, ha, hn, inj, q⟩ := h
    refine ⟨_, (pss_cons (ps_set (i := 1) sc_repeats.nd rfl (Or.inl rfl) (pe_seenNew))
  (pss_cons (ps_set (i := 2) sc_repeats.nd rfl (Or.inl rfl) (pe_lst pa_nil))
  (pss_cons (ps_for PassesOwn.never rfl (pi_tup (pv 0)) (pg_name (i := 3) sc_repeats.nd rfl (Or.inl rfl))
    (pss_cons (ps_expr (pe_bm PySem.F.plainAttrs_list PySem.F.slot_list_append PySem.F.type_list_append mt_append (pv 2) (pa_cons (pe_seenGet (S := fun _ => false) (pv 1) (pv 3) pe_bl ⟨rfl, rfl, rfl, rfl⟩) pa_nil)))
  (pss_one (ps_if (pt_cmpR op_notN (pv 3) pe_non (nomark _))
    (pss_one (ps_seenPut (pv 1) (pv 3) pe_bl)) pss_nil))))
  (pss_one (ps_ret (pv 2)))))), ?_⟩
    intro d nd
    refine ⟨Nat.zero_le _, fun p np => ?_⟩
    have np0 : H p = none := by
      by_cases e : p = d
      · rw [e]; exact nd
      · rwa [upd_ne e] at np
    have ndp : d ≠ p := fun e => by rw [← e, upd_same] at np; cases np
    have hap : a ≠ p := ha.ne np0
    have had : a ≠ d := ha.ne nd
    refine ⟨_, rfl, a, rfl, ⟨_, (ha.mono (((Same.refl H).put nd).put np0)).sq⟩, for_it walk_tup (fun i σ H' => ∃ v S, σ = [some (.ref a), some (.ref d), some (.ref p), v] ∧ Same H H' ∧ H' p = some (.lst (List.replicate i (.bl false))) ∧ (∃ m, m ≤ i + 1 ∧ H' d = some (SeenO P w d S m)) ∧ ∀ x : Nat, S (x : Int) = true → ∃ k, k < i ∧ A k = some x)
      ⟨none, fun _ => false, rfl, ((Same.refl H).put nd).put np0, upd_same, ⟨1, by omega, Eq.trans (upd_ne ndp) upd_same⟩, fun x z => nomatch z⟩ (fun i σ H' _ ⟨_, _, _, sm, _⟩ => (ha.mono sm).sq) ?_ ?_⟩
    · rintro i x σ H1 H2 hi ⟨v, S, rfl, sm, hp, ⟨m, hm, hd⟩, hS⟩ ⟨rfl, ex⟩
      rw [arV_len] at hi
      rw [arV_get hi] at ex
      cases ex
      have lp : (List.replicate i (V.bl false)).length < sizeLine := by rw [List.length_replicate]; exact sl20 (by omega)
      have ndp1 : p ≠ d := Ne.symm ndp
      cases e : A i with
      | none =>
        refine ⟨_, rfl, .inl ⟨rfl, _, SqL.of hp⟩, _, rfl, d, S, _, rfl, hd, _, rfl, rfl, hd, .inl ⟨rfl, _, _, _, rfl, rfl, hp, lp, ?_⟩⟩
        refine ⟨_, rfl, rfl, _, rfl, ?_⟩
        refine iteF ?_
        refine ⟨_, S, rfl, sm.put np0, ?_, ?_, fun x z => ?_⟩
        · rw [upd_same, rep_snoc]
        · exact ⟨m, by omega, Eq.trans (upd_ne ndp) hd⟩
        · obtain ⟨k, h1, h2⟩ := hS x z
          exact ⟨k, by omega, h2⟩
      | some x0 =>
        have nS : S (x0 : Int) = false := by
          cases z : S (x0 : Int) with
          | false => rfl
          | true =>
            obtain ⟨k, h1, h2⟩ := hS x0 z
            exact absurd (inj k i x0 (by omega) hi h2 e) (by omega)
        refine ⟨_, rfl, .inl ⟨rfl, _, SqL.of hp⟩, _, rfl, d, S, _, rfl, hd, _, rfl, rfl, hd, .inr ⟨_, rfl, _, _, _, rfl, rfl, hp, lp, ?_⟩⟩
        rw [nS, rep_snoc]
        refine ⟨_, rfl, rfl, _, rfl, ?_⟩
        refine ifT nn_int ?_
        refine ⟨_, rfl, _, rfl, d, S, _, _, rfl, rfl, rfl, Eq.trans (upd_ne (Ne.symm ndp1)) hd, sl20 (by omega), ?_⟩
        refine ⟨_, _, rfl, (sm.put np0).put nd, ?_, ⟨m + 1, by omega, upd_same⟩, fun x z => ?_⟩
        · rw [upd_ne ndp1, upd_same]
        · rw [Bool.or_eq_true, decide_eq_true_eq] at z
          rcases z with z | z
          · obtain ⟨k, h1, h2⟩ := hS x z
            exact ⟨k, by omega, h2⟩
          · have : x = x0 := by omega
            exact ⟨i, by omega, by rw [e, this]⟩
    · rintro σ H1 ⟨v, S, rfl, sm, hp, _⟩
      rw [arV_len] at hp
      exact ⟨_, rfl, q _ _ sm np0 hp⟩
abbrev s_is_out_of_order : Stmt := top 21
abbrev N_is_out_of_order : List Str := ["chart", "value", "post", "upper"]
theorem sc_is_out_of_order : FnScope N_is_out_of_order ["chart", "value", "post"] (defScope s_is_out_of_order) := ⟨rfl, rfl, rfl, by decide +kernel, rfl, by decide +kernel, by decide +kernel⟩
theorem k_is_out_of_order (T : Txt K mg CT CU CO) (D : Dg K mg "is_out_of_order" s_is_out_of_order) : Cal P w K mg base 1 "is_out_of_order" ["chart", "value", "post"] spOut := by
  refine D.ok sc_is_out_of_order (fun _ _ _ _ _ _ us hl => match us, hl with | [_, _, _], _ => rfl) (fun vs H Q E h => ?_) (fun f cdv A outer s H vs Q E hr h => ?_)
  · obtain ⟨c, v, n, k, par, A, rfl, _⟩ := h
    rfl
  · obtain ⟨c, v, n, k, par, A, rfl, hc, hv, ch, ar, hk, q⟩ := h
    refine ⟨_, (pss_cons (ps_if (PW.pt (pw_or (pt_cmpR op_eq (pv 2) pe_int (nomark _)) (pw_or1 (pt_cmpR op_isN (pe_ix ix_tup (pv 1) (pv 2) (fun _ _ => rfl)) pe_non (nomark _)))))
    (pss_one (ps_ret pe_bl)) pss_nil)
  (pss_cons (ps_set (i := 3) sc_is_out_of_order.nd rfl (Or.inl rfl) (pe_ix ix_tup (pv 1) (pe_ix ix_tup (pv 0) (pv 2) (fun _ _ => rfl)) (fun _ _ => rfl)))
  (pss_one (ps_ret (pe_or (pe_cmpR op_isN (pv 3) pe_non (nomark _)) (pe_one (pe_cmpR op_gt (pv 3) (pe_ix ix_tup (pv 1) (pv 2) (fun _ _ => rfl)) (nomark _)))))))), ?_⟩
    refine ⟨_, rfl, rfl, _, rfl, ?_⟩
    by_cases h0 : k = 0
    · subst h0
      refine ifT (vi_eq (b := 0) rfl) ?_
      refine iteT ?_
      exact q
    refine ifF (vi_ne (b := 0) h0) ?_
    refine ⟨_, rfl, _, rfl, _, _, _, _, rfl, rfl, hv.sq, at_ar hk, rfl, _, rfl, ?_⟩
    cases e : A k with
    | none =>
      refine iteT ?_
      exact q
    | some x =>
      refine ifF vi_non ?_
      obtain ⟨y, ey, hlt⟩ := ar.ord k x (by omega) hk e
      refine ⟨_, rfl, _, rfl, _, rfl, _, _, _, _, rfl, rfl, SqT.of hc, at_ch hk (by omega), _, _, _, _, rfl, rfl, hv.sq, at_ar (ch.pn hk (by omega)), ?_⟩
      rw [ey]
      refine ⟨_, rfl, rfl, _, rfl, ifF vi_non ?_⟩
      refine ⟨_, rfl, _, rfl, _, rfl, _, _, _, _, rfl, rfl, hv.sq, at_ar hk, ?_⟩
      rw [e]
      refine ⟨_, _, rfl, rfl, ?_⟩
      show Q (.bl (decide ((x : Int) < (y : Int)))) H
      rw [decide_eq_false (by omega)]
      exact q
end
end K89
set_option Elab.async false
set_option linter.all false
set_option maxRecDepth 100000
set_option maxHeartbeats 1000000
namespace K89
open PySem PySem.Spec PyProof.Rows L2

/-- a person that is held -/
def spHolder : Sp := fun vs H Q _ => ∃ (v : Addr) (n x : Nat) (A : Fn), vs = [.ref v, .int (x : Int)] ∧ AT H v n A ∧ (∃ k, k < n ∧ A k = some x) ∧ Q .non H
def spPosts : Sp := fun vs H Q _ => ∃ (v : Addr) (n : Nat) (A : Fn), vs = [.ref v] ∧ AT H v n A ∧ n ≤ 20 ∧ Inj n A ∧
  ∀ H' d kvs, Same H H' → H d = none → H' d = some (.dK kvs) → (∀ k x, k < n → A k = some x → valV kvs (Sum.inl (x : Int)) = some (.int (k : Int))) → Q (.ref d) H'
def spPeople : Sp := fun vs H Q _ => ∃ (v l : Addr) (n : Nat) (A : Fn) (xs : List Nat), vs = [.ref v, .ref l] ∧ AT H v n A ∧ H l = some (.lst (nV xs)) ∧ xs.length ≤ 20 ∧ xs.Nodup ∧ (∀ x ∈ xs, ∃ k, k < n ∧ A k = some x) ∧ ∀ H', Same H H' → Q .non H'

section
variable {P : Program} {w : World} {K : PySem.W.Frag} {mg : Str → Option Value} {base : Heap} {CT CU CO : Addr}
abbrev s_arrangement_fault : Stmt := top 22
abbrev N_arrangement_fault : List Str := ["chart", "value", "reason", "person", "post"]
theorem sc_arrangement_fault : FnScope N_arrangement_fault ["chart", "value"] (defScope s_arrangement_fault) := ⟨rfl, rfl, rfl, by decide +kernel, rfl, by decide +kernel, by decide +kernel⟩
theorem k_arrangement_fault (T : Txt K mg CT CU CO) (D : Dg K mg "arrangement_fault" s_arrangement_fault) (c_first_fault : Cal P w K mg base 1 "first_fault" ["word", "faults"] spFirst) (c_is_person : Cal P w K mg base 2 "is_person" ["value"] spWhole)
    (c_repeats : Cal P w K mg base 1 "repeats" ["items"] spRepeats) (c_is_out_of_order : Cal P w K mg base 1 "is_out_of_order" ["chart", "value", "post"] spOut) : Cal P w K mg base 3 "arrangement_fault" ["chart", "value"] spArr := by
  refine D.ok sc_arrangement_fault (fun _ _ _ _ _ _ us hl => match us, hl with | [_, _], _ => rfl) (fun vs H Q E h => ?_) (fun f cdv A outer s H vs Q E hr h => ?_)
  · obtain ⟨c, v, n, par, A, rfl, _⟩ := h
    rfl
  · obtain ⟨c, v, n, par, A, rfl, hc, hv, ch, ar, q⟩ := h
    refine ⟨_, (pss_cons (ps_if (PW.pt (pw_or (pt_not (pt_val (pe_callB call_isi (by rfl) T.isinstance (by decide +kernel) (pa_cons (pv 1) (pa_cons (pe_bltn (v := .ty "tuple") (by rfl) T.tuple (by decide +kernel) rfl) pa_nil))))) (pw_or1 (pt_cmpR op_ne (pe_callB call_len_seq (by rfl) T.len (by decide +kernel) (pa_cons (pv 1) pa_nil)) (pe_callB call_len_seq (by rfl) T.len (by decide +kernel) (pa_cons (pv 0) pa_nil)) (nomark _)))))
    pss_never pss_nil)
  (pss_cons (ps_set (i := 2) sc_arrangement_fault.nd rfl (Or.inl rfl) (pe_cal c_first_fault (hr.mono (by decide)) (by rfl) (pa_cons pe_str (pa_cons (pe_lc (own := [("person", 3)])  (by rfl) sc_arrangement_fault.nd (pi_tup (pv 1)) (blkOk_by (N := N_arrangement_fault) (sc := defScope s_arrangement_fault) (by decide +kernel)) (fun _ _ _ _ _ => (pg_name (i := 3) sc_arrangement_fault.nd rfl (Or.inl rfl))) (fun _ _ _ _ _ => pts_nil) (fun _ _ _ _ _ => (pe_and (pe_cmpR op_notN (pv 3) pe_non (nomark _)) (pe_one (pe_not (pe_cal c_is_person (hr.mono (by decide)) (by rfl) (pa_cons (pv 3) pa_nil))))))) pa_nil))))
  (pss_cons (ps_if (pt_cmpR op_notN (pv 2) pe_non (nomark _))
    pss_never pss_nil)
  (pss_cons (ps_set (i := 2) sc_arrangement_fault.nd rfl (Or.inl rfl) (pe_cal c_first_fault (hr.mono (by decide)) (by rfl) (pa_cons pe_str (pa_cons (pe_cal c_repeats (hr.mono (by decide)) (by rfl) (pa_cons (pv 1) pa_nil)) pa_nil))))
  (pss_cons (ps_if (pt_cmpR op_notN (pv 2) pe_non (nomark _))
    pss_never pss_nil)
  (pss_one (ps_ret (pe_cal c_first_fault (hr.mono (by decide)) (by rfl) (pa_cons pe_str (pa_cons (pe_lc (own := [("post", 4)])  (by rfl) sc_arrangement_fault.nd (pi_range1 (by rfl) T.range (pa_cons (pe_callB call_len_seq (by rfl) T.len (by decide +kernel) (pa_cons (pv 0) pa_nil)) pa_nil)) (blkOk_by (N := N_arrangement_fault) (sc := defScope s_arrangement_fault) (by decide +kernel)) (fun _ _ _ _ _ => (pg_name (i := 4) sc_arrangement_fault.nd rfl (Or.inl rfl))) (fun _ _ _ _ _ => pts_nil) (fun _ _ _ _ _ => (pe_cal c_is_out_of_order (hr.mono (by decide)) (by rfl) (pa_cons (pv 0) (pa_cons (pv 1) (pa_cons (pv 4) pa_nil)))))) pa_nil)))))))))), ?_⟩
    refine ⟨_, rfl, _, _, _, _, true, rfl, .ty _, hv.ty, kit_ty (by decide +kernel), true, rfl, ?_⟩
    refine iteF ?_
    refine ⟨_, rfl, v, _, rfl, .inr (hv.sq), _, rfl, c, _, rfl, .inr (SqT.of hc), rfl, _, rfl, ?_⟩
    rw [arV_len, chV_len]
    refine ifF (by rw [vi_eq rfl]; rfl) ?_
    refine ⟨_, rfl, v, rfl, ⟨_, hv.sq⟩, fun D nD => lc_it walk_tup (fun i H' => Same H H' ∧ H' D = some (.lst (List.replicate i (.bl false)))) ⟨(Same.refl H).put nD, upd_same⟩ (fun i H' _ h => (hv.mono h.1).sq) ?_ ?_⟩
    · rintro i x H1 H2 hi ⟨sm, hD⟩ ⟨rfl, ex⟩
      rw [arV_len] at hi
      rw [arV_get hi] at ex
      cases ex
      have lp : (List.replicate i (V.bl false)).length < sizeLine := by rw [List.length_replicate]; exact sl20 (by have := ch.le; omega)
      have fin : Same H (upd H2 D (.lst (List.replicate i (V.bl false) ++ [V.bl false]))) ∧ upd H2 D (.lst (List.replicate i (V.bl false) ++ [V.bl false])) D = some (.lst (List.replicate (i + 1) (V.bl false))) := ⟨sm.put nD, by rw [upd_same, rep_snoc]⟩
      refine ⟨rfl, _, rfl, rfl, _, rfl, ?_⟩
      cases e : A i with
      | none =>
        refine ifF nn_non ?_
        exact ⟨_, hD, lp, fin⟩
      | some x0 =>
        refine ifT nn_int ?_
        exact ⟨_, rfl, _, rfl, _, rfl, _, hD, lp, fin⟩
    · rintro H1 ⟨s1, hD⟩
      rw [arV_len] at hD
      refine ⟨_, D, n, rfl, hD, fun H2 s2 => ?_⟩
      have s2 := s1.trans s2
      refine ⟨_, rfl, rfl, _, rfl, ?_⟩
      refine ifF nn_non ?_
      refine ⟨_, rfl, v, n, A, rfl, hv.mono s2, ch.le, ar.inj, fun H3 p s3 _ hp => ?_⟩
      have s3 := s2.trans s3
      refine ⟨_, p, n, rfl, hp, fun H4 s4 => ?_⟩
      have s4 := s3.trans s4
      refine ⟨_, rfl, rfl, _, rfl, ?_⟩
      refine ifF nn_non ?_
      refine ⟨_, rfl, c, _, rfl, .inr (SqT.of (s4 _ _ hc)), _, rfl, ?_⟩
      rw [chV_len]
      have hle := ch.le
      refine ⟨by omega, by omega, fun D2 nD2 => lc_it walk_range (fun i H' => Same H H' ∧ H' D2 = some (.lst (List.replicate i (.bl false)))) ⟨s4.put (s4.nw nD2), upd_same⟩ (fun _ _ _ _ => True.intro) ?_ ?_⟩
      · rintro i x H5 H6 hi ⟨sm, hD2⟩ ⟨rfl, rfl⟩
        have hi : i < n := by simpa using hi
        refine ⟨rfl, _, rfl, _, rfl, _, rfl, c, v, n, i, par, A, ?_, sm _ _ hc, hv.mono sm, ch, ar, hi, _, hD2, ?_, sm.put (s4.nw nD2), ?_⟩
        · simp
        · rw [List.length_replicate]
          exact sl20 (by omega)
        · rw [upd_same, rep_snoc]
      · rintro H5 ⟨s5, hD5⟩
        refine ⟨_, D2, _, rfl, hD5, fun H6 s6 => ?_⟩
        exact q H6 (s5.trans s6)
abbrev s_require_arrangement : Stmt := top 23
abbrev N_require_arrangement : List Str := ["chart", "arrangement", "reason"]
theorem sc_require_arrangement : FnScope N_require_arrangement ["chart", "arrangement"] (defScope s_require_arrangement) := ⟨rfl, rfl, rfl, by decide +kernel, rfl, by decide +kernel, by decide +kernel⟩
theorem k_require_arrangement (T : Txt K mg CT CU CO) (D : Dg K mg "require_arrangement" s_require_arrangement) (c_arrangement_fault : Cal P w K mg base 3 "arrangement_fault" ["chart", "value"] spArr) : Cal P w K mg base 4 "require_arrangement" ["chart", "arrangement"] spArr := by
  refine D.ok sc_require_arrangement (fun _ _ _ _ _ _ us hl => match us, hl with | [_, _], _ => rfl) (fun vs H Q E h => ?_) (fun f cdv A outer s H vs Q E hr h => ?_)
  · obtain ⟨c, v, n, par, A, rfl, _⟩ := h
    rfl
  · obtain ⟨c, v, n, par, A, rfl, hc, hv, ch, ar, q⟩ := h
    refine ⟨_, (pss_cons (ps_set (i := 2) sc_require_arrangement.nd rfl (Or.inl rfl) (pe_cal c_arrangement_fault (hr.mono (by decide)) (by rfl) (pa_cons (pv 0) (pa_cons (pv 1) pa_nil))))
  (pss_one (ps_if (pt_cmpR op_notN (pv 2) pe_non (nomark _))
    pss_never pss_nil))), ?_⟩
    refine ⟨_, rfl, _, rfl, c, v, n, par, A, rfl, hc, hv, ch, ar, fun H' sm => ?_⟩
    exact ⟨_, rfl, rfl, _, rfl, iteF (q _ sm)⟩
abbrev s_require_holder : Stmt := top 25
abbrev N_require_holder : List Str := ["arrangement", "person"]
theorem sc_require_holder : FnScope N_require_holder ["arrangement", "person"] (defScope s_require_holder) := ⟨rfl, rfl, rfl, by decide +kernel, rfl, by decide +kernel, by decide +kernel⟩
theorem k_require_holder (T : Txt K mg CT CU CO) (D : Dg K mg "require_holder" s_require_holder) (c_is_person : Cal P w K mg base 2 "is_person" ["value"] spWhole) : Cal P w K mg base 3 "require_holder" ["arrangement", "person"] spHolder := by
  refine D.ok sc_require_holder (fun _ _ _ _ _ _ us hl => match us, hl with | [_, _], _ => rfl) (fun vs H Q E h => ?_) (fun f cdv A outer s H vs Q E hr h => ?_)
  · obtain ⟨v, n, x, A, rfl, _⟩ := h
    rfl
  · obtain ⟨v, n, x, A, rfl, hv, ⟨k, hk, ek⟩, q⟩ := h
    refine ⟨_, (pss_one (ps_if (PW.pt (pw_or (pt_not (pt_val (pe_cal c_is_person (hr.mono (by decide)) (by rfl) (pa_cons (pv 1) pa_nil)))) (pw_or1 (pt_cmpR op_notIn_seq (pv 1) (pv 0) rfl))))
    pss_never pss_nil)), ?_⟩
    refine ⟨_, rfl, _, rfl, true, rfl, ?_⟩
    refine iteF ?_
    refine ⟨_, rfl, _, rfl, v, _, rfl, .inr (hv.sq), rfl, fl_all fl_ar, _, rfl, ?_⟩
    refine ifF (by rw [if_pos rfl, in_ar hk ek]; rfl) ?_
    exact q
abbrev s_posts_of_people : Stmt := top 24
abbrev N_posts_of_people : List Str := ["arrangement", "post", "person"]
theorem sc_posts_of_people : FnScope N_posts_of_people ["arrangement"] (defScope s_posts_of_people) := ⟨rfl, rfl, rfl, by decide +kernel, rfl, by decide +kernel, by decide +kernel⟩
theorem k_posts_of_people (T : Txt K mg CT CU CO) (D : Dg K mg "posts_of_people" s_posts_of_people) : Cal P w K mg base 1 "posts_of_people" ["arrangement"] spPosts := by
  refine D.ok sc_posts_of_people (fun _ _ _ _ _ _ us hl => match us, hl with | [_], _ => rfl) (fun vs H Q E h => ?_) (fun f cdv A outer s H vs Q E hr h => ?_)
  · obtain ⟨v, n, A, rfl, _⟩ := h
    rfl
  · obtain ⟨v, n, A, rfl, hv, hn, inj, q⟩ := h
    refine ⟨_, (pss_one (ps_ret (pe_dc (own := [("post", 1), ("person", 2)]) (g := gTup K 2 (gCons (gName 1) (gCons (gName 2) gNil))) (by rfl) sc_posts_of_people.nd (pi_enumT (by rfl) T.enumerate (pa_cons (pv 0) pa_nil)) (blkOk_by (N := N_posts_of_people) (sc := defScope s_posts_of_people) (by decide +kernel)) (fun _ _ _ _ _ => (pg_tup (by rfl) (pgs_cons (pg_name (i := 1) sc_posts_of_people.nd rfl (Or.inl rfl)) (pgs_cons (pg_name (i := 2) sc_posts_of_people.nd rfl (Or.inl rfl)) pgs_nil)))) (fun _ _ _ _ _ => (pts_one (pt_cmpR op_notN (pv 2) pe_non (nomark _)))) (fun _ _ _ _ _ => (pv 2)) (fun _ _ _ _ _ => (pv 1))))), ?_⟩
    refine ⟨_, rfl, v, _, rfl, hv.sq, fun D nD => dc_it walk_enumT (fun i H' => Same H H' ∧ ∃ kvs, H' D = some (.dK kvs) ∧ kvs.length ≤ i ∧ ∀ k x, k < i → A k = some x → valV kvs (Sum.inl (x : Int)) = some (.int (k : Int)))
      ⟨(Same.refl H).put nD, [], upd_same, Nat.le_refl _, fun k x z => absurd z (Nat.not_lt_zero k)⟩ (fun i H' _ h => (hv.mono h.1).sq) ?_ ?_⟩
    · rintro i x H1 H2 hi ⟨sm, kvs, hD, hl, hk⟩ hy
      obtain ⟨t, y1, rfl, nT, rfl, e2⟩ := yen hy
      rw [arV_len] at hi
      rw [arV_get hi] at e2
      cases e2
      have ntD : D ≠ t := ne_of_none hD nT
      refine ⟨_, _, rfl, SqT.of upd_same, rfl, _, _, rfl, _, _, rfl, rfl, rfl, _, rfl, rfl, _, rfl, ?_⟩
      cases e : A i with
      | none =>
        refine ifF nn_non ?_
        refine ⟨sm.up nT, kvs, by rw [upd_ne ntD]; exact hD, by omega, fun k x hki ek => ?_⟩
        by_cases hk2 : k = i
        · rw [hk2, e] at ek; cases ek
        · exact hk k x (by omega) ek
      | some x0 =>
        refine ifT nn_int ?_
        refine ⟨_, rfl, _, rfl, kvs, .inl (x0 : Int), rfl, Eq.trans (upd_ne ntD) hD, sl20 (by omega), (sm.up nT).put nD, _, upd_same, ?_, fun k x hki ek => ?_⟩
        · have := putK_le kvs (Sum.inl (x0 : Int) : Key) (V.int (i : Int))
          omega
        · rw [valV_put]
          by_cases hk2 : k = i
          · subst hk2
            rw [e] at ek
            cases ek
            rw [if_pos rfl]
          · rw [if_neg (fun z => hk2 (inj k i x (by omega) hi ek (by rw [e]; have := Sum.inl.inj z; exact congrArg some (by omega))))]
            exact hk k x (by omega) ek
    · rintro H1 ⟨sm, kvs, hD, _, hk⟩
      rw [arV_len] at hk
      exact q H1 D kvs sm nD hD hk
abbrev s_require_people : Stmt := top 26
abbrev N_require_people : List Str := ["arrangement", "people", "seen", "index", "person"]
theorem sc_require_people : FnScope N_require_people ["arrangement", "people"] (defScope s_require_people) := ⟨rfl, rfl, rfl, by decide +kernel, rfl, by decide +kernel, by decide +kernel⟩
theorem k_require_people (T : Txt K mg CT CU CO) (D : Dg K mg "require_people" s_require_people) (c_is_person : Cal P w K mg base 2 "is_person" ["value"] spWhole) : Cal P w K mg base 3 "require_people" ["arrangement", "people"] spPeople := by
  refine D.ok sc_require_people (fun _ _ _ _ _ _ us hl => match us, hl with | [_, _], _ => rfl) (fun vs H Q E h => ?_) (fun f cdv A outer s H vs Q E hr h => ?_)
  · obtain ⟨v, l, n, A, xs, rfl, _⟩ := h
    rfl
  · obtain ⟨v, l, n, A, xs, rfl, hv, hl, hlen, nd, hx, q⟩ := h
    refine ⟨_, (pss_cons (ps_if (pt_not (pt_val (pe_callB call_isi (by rfl) T.isinstance (by decide +kernel) (pa_cons (pv 1) (pa_cons (pe_bltn (v := .ty "list") (by rfl) T.list (by decide +kernel) rfl) pa_nil)))))
    pss_never pss_nil)
  (pss_cons (ps_set (i := 2) sc_require_people.nd rfl (Or.inl rfl) (pe_lst pa_nil))
  (pss_one (ps_for PassesOwn.never rfl (pi_enum (by rfl) T.enumerate (pa_cons (pv 1) pa_nil)) (pg_tup (by rfl) (pgs_cons (pg_name (i := 3) sc_require_people.nd rfl (Or.inl rfl)) (pgs_cons (pg_name (i := 4) sc_require_people.nd rfl (Or.inl rfl)) pgs_nil)))
    (pss_cons (ps_if (PW.pt (pw_or (pt_not (pt_val (pe_cal c_is_person (hr.mono (by decide)) (by rfl) (pa_cons (pv 4) pa_nil)))) (pw_or (pt_cmpR op_in_seq (pv 4) (pv 2) rfl) (pw_or1 (pt_cmpR op_notIn_seq (pv 4) (pv 0) rfl)))))
    pss_never pss_nil)
  (pss_one (ps_expr (pe_bm PySem.F.plainAttrs_list PySem.F.slot_list_append PySem.F.type_list_append mt_append (pv 2) (pa_cons (pv 4) pa_nil))))))))), ?_⟩
    refine ⟨_, rfl, _, _, _, _, true, rfl, .ty _, .base (.lst hl), kit_ty (by decide +kernel), true, rfl, ?_⟩
    refine iteF ?_
    refine ⟨Nat.zero_le _, fun p np => ?_⟩
    refine ⟨_, rfl, l, _, rfl, SqL.of ((Same.refl H).put np _ _ hl), for_it walk_enum (fun i σ H' => ∃ a b, σ = [some (.ref v), some (.ref l), some (.ref p), a, b] ∧ Same H H' ∧ H' p = some (.lst (nV (xs.take i))))
      ⟨_, _, rfl, (Same.refl H).put np, upd_same⟩ (fun i σ H' _ ⟨_, _, _, sm, _⟩ => SqL.of (sm _ _ hl)) ?_ ?_⟩
    · rintro i z σ H1 H2 hi ⟨a, b, rfl, sm, hp⟩ hy
      obtain ⟨t, y1, rfl, nT, rfl, e2⟩ := yen hy
      rw [nV_len] at hi
      have hg : xs[i]? = some xs[i] := List.getElem?_eq_getElem hi
      rw [nV_get hg] at e2
      cases e2
      obtain ⟨k, hk, ek⟩ := hx xs[i] (List.getElem_mem hi)
      have sm2 := sm.up (o := .tup [.int (i : Int), .int (xs[i] : Int)]) nT
      have np2 : p ≠ t := ne_of_none hp nT
      refine ⟨_, _, rfl, SqT.of upd_same, rfl, _, _, rfl, _, _, rfl, rfl, ?_⟩
      refine ⟨_, rfl, _, rfl, true, rfl, ?_⟩
      refine iteF ?_
      refine ⟨_, rfl, _, rfl, p, _, rfl, .inl (SqL.of (Eq.trans (upd_ne np2) hp)), rfl, fl_all fl_n, _, rfl, ?_⟩
      have hnot : xs[i] ∉ xs.take i := by
        intro hm
        obtain ⟨j, hj, ej⟩ := List.mem_take_iff_getElem.mp hm
        have := List.getElem_inj (h₀ := by omega) (h₁ := hi) nd |>.mp ej
        omega
      refine ifF (by rw [if_neg Bool.false_ne_true, in_n]; exact decide_eq_false hnot) ?_
      refine ⟨_, rfl, _, rfl, v, _, rfl, .inr ((hv.mono sm2).sq), rfl, fl_all fl_ar, _, rfl, ?_⟩
      refine ifF (by rw [if_pos rfl, in_ar hk ek]; rfl) ?_
      refine ⟨_, rfl, .inl ⟨rfl, _, SqL.of (Eq.trans (upd_ne np2) hp)⟩, _, rfl, p, _, _, rfl, rfl, Eq.trans (upd_ne np2) hp, ?_, ?_⟩
      · rw [nV_len, List.length_take]
        exact sl20 (by omega)
      · refine ⟨_, _, rfl, sm2.put np, ?_⟩
        rw [upd_same, List.take_succ, hg, nV, nV, List.map_append]
        rfl
    · rintro σ H1 ⟨a, b, rfl, sm, _⟩
      exact q H1 sm
end
end K89
set_option Elab.async false
set_option linter.all false
set_option maxRecDepth 100000
set_option maxHeartbeats 1000000
namespace K89
open PySem PySem.Spec PyProof.Rows L2

def spTree (C : Addr) : Sp := fun vs H Q _ => ∃ (H0 : Hp) (x c dx : Addr) (n : Nat) (par : Nat → Nat), vs = [.ref x, .ref c] ∧ Same H0 H ∧ H0 x = none ∧ H x = some (.ins C dx []) ∧ H0 c = some (.tup (chV n par)) ∧ Ch n par ∧ ∀ H', Same H0 H' → TreeAt C H' x c n par → (∀ u, H0 u ≠ none → u ≠ c → TreeAt C (drop1 H' u) x c n par) → Q .non H'
def spPath (C : Addr) : Sp := fun vs H Q _ => ∃ (x c : Addr) (n p : Nat) (par : Nat → Nat), vs = [.ref x, .int (p : Int)] ∧ TreeAt C H x c n par ∧ p < n ∧ ∀ H' l, Same H H' → H l = none → H' l = some (.lst (nV (path par p))) → Q (.ref l) H'
def spSizes (C : Addr) : Sp := fun vs H Q _ => ∃ (x c : Addr) (n : Nat) (par : Nat → Nat), vs = [.ref x] ∧ TreeAt C H x c n par ∧ ∀ H' l, Same H H' → H l = none → H' l = some (.lst (nV ((List.range n).map (wt n par)))) → Q (.ref l) H'
section
variable {P : Program} {w : World} {K : PySem.W.Frag} {mg : Str → Option Value} {base : Heap} {CT CU CO : Addr}
abbrev s_Tree_path : Stmt := inClass (top 16) 1
abbrev N_Tree_path : List Str := ["self", "post", "posts"]
theorem sc_Tree_path : FnScope N_Tree_path ["self", "post"] (defScope s_Tree_path) := ⟨rfl, rfl, rfl, by decide +kernel, rfl, by decide +kernel, by decide +kernel⟩
theorem k_Tree_path (T : Txt K mg CT CU CO) (D : Dm K CT "path" "Tree.path" s_Tree_path) : CalM P w K mg base 1 CT "path" ["self", "post"] (spPath CT) := by
  refine D.ok sc_Tree_path (fun _ _ _ _ _ _ us hl => match us, hl with | [_, _], _ => rfl) (fun vs H Q E h => ?_) (fun f cdv A outer s H vs Q E hr h => ?_)
  · obtain ⟨x, c, n, p, par, rfl, _⟩ := h
    rfl
  · obtain ⟨x, c, n, p, par, rfl, ht, hpn, q⟩ := h
    refine ⟨_, (pss_cons (ps_set (i := 2) sc_Tree_path.nd rfl (Or.inl rfl) (pe_lst (pa_cons (pv 1) pa_nil)))
  (pss_cons (ps_while PassesOwn.never (pt_cmpR op_ne (pe_ix ix_list (pv 2) (pe_un un_neg pe_int) (fun _ _ => rfl)) pe_int (nomark _))
    (pss_one (ps_expr (pe_bm PySem.F.plainAttrs_list PySem.F.slot_list_append PySem.F.type_list_append mt_append (pv 2) (pa_cons (pe_ix ix_tup (pe_fld (pv 0) rfl) (pe_ix ix_list (pv 2) (pe_un un_neg pe_int) (fun _ _ => rfl)) (fun _ _ => rfl)) pa_nil)))))
  (pss_one (ps_ret (pe_revL (pv 2)))))), ?_⟩
    refine ⟨_, rfl, by show 1 ≤ sizeLine; decide, fun l nl => ?_⟩
    refine ⟨fun m σ H' => ∃ pre, σ = [some (.ref x), some (.int (p : Int)), some (.ref l)] ∧ Same H H' ∧ H' l = some (.lst (nV (pre ++ [m]))) ∧ ups par p = pre ++ ups par m ∧ m < n ∧ pre.length + m ≤ n, ⟨p, [], rfl, (Same.refl H).put nl, upd_same, rfl, hpn, by simp; omega⟩, ?_⟩
    rintro m σ H1 ⟨pre, rfl, sm, hl, hu, hm, hlen⟩
    have last : atI (nV (pre ++ [m])) (-1) = some (.int (m : Int)) := by rw [nV_app, nV_one]; exact atI_last _ _
    refine ⟨_, rfl, _, rfl, _, _, _, _, rfl, rfl, SqL.of hl, last, rfl, _, rfl, ?_⟩
    by_cases h0 : m = 0
    · subst h0
      refine ifF (nI_f rfl) ?_
      refine ⟨_, rfl, _, _, rfl, SqL.of hl, fun r nr => ?_⟩
      refine q _ r (sm.put (sm.nw nr)) (sm.nw nr) ?_
      rw [upd_same, nV_rev, path, hu, ups_zero ht.ch.par]
    · refine ifT (nI_t (by omega)) ?_
      refine ⟨fun σ' H' => ∃ m', m' < m ∧ ∃ pre, σ' = [some (.ref x), some (.int (p : Int)), some (.ref l)] ∧ Same H H' ∧ H' l = some (.lst (nV (pre ++ [m']))) ∧ ups par p = pre ++ ups par m' ∧ m' < n ∧ pre.length + m' ≤ n, fun _ _ z => z, ?_⟩
      obtain ⟨dx, b, ls, h1, h2, ch, h4, h5, h6⟩ := ht.mono sm
      refine ⟨_, rfl, .inl ⟨rfl, _, SqL.of hl⟩, ?_⟩
      refine ⟨_, rfl, x, CT, dx, _, _, rfl, h1, T.clT, T.tAbove, trF_above, _, rfl, _, rfl, _, _, _, _, rfl, rfl, SqL.of hl, last, _, _, _, _, rfl, rfl, SqT.of h2, at_ch hm (by omega), _, _, _, rfl, rfl, hl, ?_, ?_⟩
      · rw [nV_len, List.length_append]
        have := ch.le
        exact sl20 (by simp; omega)
      have hlt := ch.par m (by omega)
      refine ⟨par m, hlt, pre ++ [m], rfl, sm.put nl, ?_, ?_, by omega, ?_⟩
      · rw [upd_same, nV_app (a := pre ++ [m]), nV_one]
      · rw [hu, ups_pos ch.par (by omega)]
        simp
      · simp
        omega
abbrev s_Tree_init : Stmt := inClass (top 16) 0
abbrev N_Tree_init : List Str := ["self", "chart", "post", "upper"]
theorem sc_Tree_init : FnScope N_Tree_init ["self", "chart"] (defScope s_Tree_init) := ⟨rfl, rfl, rfl, by decide +kernel, rfl, by decide +kernel, by decide +kernel⟩
theorem k_Tree (T : Txt K mg CT CU CO) (D : Di K mg "Tree" CT "Tree.__init__" s_Tree_init) : CalI P w K mg base 1 "Tree" CT ["self", "chart"] (spTree CT) := by
  refine D.ok sc_Tree_init (fun _ _ _ _ _ _ us hl => match us, hl with | [_, _], _ => rfl) (fun vs H Q E h => ?_) (fun f cdv A outer s H vs Q E hr h => ?_)
  · obtain ⟨H0, x, c, dx, n, par, rfl, _⟩ := h
    rfl
  · obtain ⟨H0, x, c, dx, n, par, rfl, s0, nx, hx, hc, ch, q⟩ := h
    refine ⟨_, (pss_cons (ps_fld (pv 0) (pv 1) rfl)
  (pss_cons (ps_fld (pv 0) (pe_lc (own := [("post", 2)])  (by rfl) sc_Tree_init.nd (pi_tup (pv 1)) (blkOk_by (N := N_Tree_init) (sc := defScope s_Tree_init) (by decide +kernel)) (fun _ _ _ _ _ => (pg_name (i := 2) sc_Tree_init.nd rfl (Or.inl rfl))) (fun _ _ _ _ _ => pts_nil) (fun _ _ _ _ _ => (pe_lst pa_nil))) rfl)
  (pss_one (ps_for PassesOwn.never rfl (pi_enumT (by rfl) T.enumerate (pa_cons (pv 1) pa_nil)) (pg_tup (by rfl) (pgs_cons (pg_name (i := 2) sc_Tree_init.nd rfl (Or.inl rfl)) (pgs_cons (pg_name (i := 3) sc_Tree_init.nd rfl (Or.inl rfl)) pgs_nil)))
    (pss_one (ps_if (pt_cmpR op_notN (pv 3) pe_non (nomark _))
    (pss_one (ps_expr (pe_bm PySem.F.plainAttrs_list PySem.F.slot_list_append PySem.F.type_list_append mt_append (pe_ix ix_list (pe_fld (pv 0) rfl) (pv 3) (fun _ _ => rfl)) (pa_cons (pv 2) pa_nil)))) pss_nil)))))), ?_⟩
    refine ⟨_, rfl, _, rfl, x, CT, dx, [], rfl, hx, T.clT, T.tAbove, by show 0 < 1000; decide, ?_⟩
    have hc0 : c ≠ x := ne_of_none hc nx
    have s1 : Same H0 (upd H x (.ins CT dx (putF "above" (.ref c) []))) := s0.put nx
    refine ⟨_, rfl, c, rfl, ⟨_, SqT.of (s1 _ _ hc)⟩, fun b nb => lc_it walk_tup (fun i H' => Same H0 H' ∧ H' x = some (.ins CT dx (putF "above" (.ref c) [])) ∧ ∃ ls : List Addr, ls.length = i ∧ H' b = some (.lst (ls.map V.ref)) ∧ ls.Nodup ∧ ∀ l ∈ ls, H' l = some (.lst []) ∧ H0 l = none ∧ l ≠ x ∧ l ≠ b)
      ?_ (fun i H' _ h => SqT.of (h.1 _ _ hc)) ?_ ?_⟩
    · have nb0 := s1.nw nb
      have xb : x ≠ b := fun e => by rw [← e, upd_same] at nb; cases nb
      exact ⟨s1.put nb0, Eq.trans (upd_ne xb) upd_same, [], rfl, upd_same, .nil, fun l h => nomatch h⟩
    · rintro i z H1 H2 hi ⟨sm, hx1, ls, hl, hb, nd, hls⟩ ⟨rfl, ez⟩
      rw [chV_len] at hi
      have nb0 := s1.nw nb
      have xb : x ≠ b := fun e => by rw [← e, upd_same] at nb; cases nb
      refine ⟨rfl, Nat.zero_le _, fun l nl => ?_⟩
      have bl : b ≠ l := ne_of_none hb nl
      have xl : x ≠ l := ne_of_none hx1 nl
      refine ⟨_, Eq.trans (upd_ne bl) hb, ?_, (sm.put (sm.nw nl)).put nb0, Eq.trans (upd_ne xb) (Eq.trans (upd_ne xl) hx1), ls ++ [l], by simp [hl], ?_, ?_, fun k hk => ?_⟩
      · rw [List.length_map, hl]
        exact sl20 (by have := ch.le; omega)
      · rw [upd_same, List.map_append]
        rfl
      · refine List.nodup_append.mpr ⟨nd, by simp, fun a ha y hy => ?_⟩
        rw [List.mem_singleton.mp hy]
        exact fun e => by have := (hls a ha).1; rw [e, nl] at this; cases this
      · rcases List.mem_append.mp hk with hk | hk
        · obtain ⟨e1, e2, e3, e4⟩ := hls k hk
          have kl : k ≠ l := fun e => by rw [e, nl] at e1; cases e1
          exact ⟨by rw [upd_ne e4, upd_ne kl]; exact e1, e2, e3, e4⟩
        · rw [List.mem_singleton.mp hk]
          exact ⟨by rw [upd_ne bl.symm, upd_same], sm.nw nl, xl.symm, bl.symm⟩
    · rintro H1 ⟨sm, hx1, ls, hl, hb, nd, hls⟩
      rw [chV_len] at hl
      have nb0 := s1.nw nb
      have xb : x ≠ b := fun e => by rw [← e, upd_same] at nb; cases nb
      refine ⟨_, rfl, x, CT, dx, _, rfl, hx1, T.clT, T.tBelow, by show 1 < 1000; decide, ?_⟩
      have s2 : Same H0 (upd H1 x (.ins CT dx (trF c b))) := sm.put nx
      refine ⟨_, rfl, c, _, rfl, SqT.of (s2 _ _ hc), for_it walk_enumT (fun i σ H' => ∃ u v, σ = [some (.ref x), some (.ref c), u, v] ∧ Same H0 H' ∧ H' x = some (.ins CT dx (trF c b)) ∧ H' b = some (.lst (ls.map V.ref)) ∧ ∀ (k : Nat) (l : Addr), ls[k]? = some l → H' l = some (.lst (nV (kids i par k))))
        ⟨_, _, rfl, s2, upd_same, Eq.trans (upd_ne xb.symm) hb, fun k l e => ?_⟩ (fun i σ H' _ ⟨_, _, _, sm, _⟩ => SqT.of (sm _ _ hc)) ?_ ?_⟩
      · obtain ⟨e1, _, e3, _⟩ := hls l (List.mem_of_getElem? e)
        rw [upd_ne e3, e1]
        rfl
      · rintro i z σ H2 H3 hi ⟨u, v, rfl, sm2, hx2, hb2, hk2⟩ hy
        obtain ⟨t, y1, rfl, nT, rfl, e2⟩ := yen hy
        rw [chV_len] at hi
        rw [chV_get hi] at e2
        have xt : x ≠ t := ne_of_none hx2 nT
        have bt : b ≠ t := ne_of_none hb2 nT
        refine ⟨_, _, rfl, SqT.of upd_same, rfl, _, _, rfl, _, _, rfl, rfl, _, rfl, rfl, _, rfl, ?_⟩
        by_cases h0 : i = 0
        · rw [if_pos h0] at e2
          cases e2
          refine ifF nn_non ?_
          refine ⟨_, _, rfl, sm2.up nT, Eq.trans (upd_ne xt) hx2, Eq.trans (upd_ne bt) hb2, fun k l e => ?_⟩
          have hlt : l ≠ t := ne_of_none (hk2 k l e) nT
          rw [upd_ne hlt, hk2 k l e, kids_succ, if_neg (by omega), List.append_nil]
        · rw [if_neg h0] at e2
          cases e2
          refine ifT nn_int ?_
          have hpn : par i < n := ch.pn hi (by omega)
          have hpl : par i < ls.length := by omega
          have hg : ls[par i]? = some ls[par i] := List.getElem?_eq_getElem hpl
          have hlk := hk2 _ _ hg
          have hlt : ls[par i] ≠ t := ne_of_none hlk nT
          obtain ⟨_, f2, f3, f4⟩ := hls _ (List.getElem_mem hpl)
          have hat : atI (ls.map V.ref) (par i : Int) = some (V.ref ls[par i]) := atI_nat (by rw [List.getElem?_map, hg]; rfl)
          refine ⟨_, rfl, x, CT, dx, _, _, rfl, Eq.trans (upd_ne xt) hx2, T.clT, T.tBelow, trF_below, _, rfl, _, _, _, _, rfl, rfl, SqL.of (Eq.trans (upd_ne bt) hb2), hat, .inl ⟨rfl, _, SqL.of (Eq.trans (upd_ne hlt) hlk)⟩, _, rfl, _, _, _, rfl, rfl, Eq.trans (upd_ne hlt) hlk, ?_, ?_⟩
          · rw [nV_len]
            refine sl20 ?_
            have := List.length_filter_le (fun k => decide (0 < k) && decide (par k = par i)) (List.range i)
            rw [List.length_range] at this
            have := ch.le
            show (kids i par (par i)).length ≤ 20
            unfold kids
            omega
          · refine ⟨_, _, rfl, (sm2.up nT).put f2, Eq.trans (upd_ne f3.symm) (Eq.trans (upd_ne xt) hx2), Eq.trans (upd_ne f4.symm) (Eq.trans (upd_ne bt) hb2), fun k l e => ?_⟩
            by_cases hk : k = par i
            · subst hk
              rw [hg] at e
              cases e
              rw [upd_same, kids_succ, if_pos ⟨by omega, rfl⟩, nV_app, nV_one]
            · have hkl : k < ls.length := (List.getElem?_eq_some_iff.mp e).1
              have hne : l ≠ ls[par i] := fun z => hk (by
                have e' := (List.getElem?_eq_some_iff.mp e).2
                exact (List.getElem_inj nd).mp (e'.trans z))
              have hlt2 : l ≠ t := ne_of_none (hk2 k l e) nT
              rw [upd_ne hne, upd_ne hlt2, hk2 k l e, kids_succ, if_neg (by omega), List.append_nil]
      · rintro σ H2 ⟨u, v, rfl, sm2, hx2, hb2, hk2⟩
        rw [chV_len] at hk2
        have ubl : ∀ (u : Addr), H0 u ≠ none → u ≠ x ∧ u ≠ b ∧ ∀ l ∈ ls, u ≠ l := fun u hu => ⟨fun e => hu (by rw [e]; exact nx), fun e => hu (by rw [e]; exact nb0), fun l hl' e => hu (by rw [e]; exact (hls l hl').2.1)⟩
        refine q H2 sm2 ⟨dx, b, ls, hx2, sm2 _ _ hc, ch, hb2, hl, hk2⟩ fun u hu huc => ?_
        obtain ⟨u1, u2, u3⟩ := ubl u hu
        exact ⟨dx, b, ls, (drop_ne u1.symm).trans hx2, (drop_ne huc.symm).trans (sm2 _ _ hc), ch, (drop_ne u2.symm).trans hb2, hl, fun k l e => (drop_ne (u3 l (List.mem_of_getElem? e)).symm).trans (hk2 k l e)⟩
abbrev s_Tree_sizes : Stmt := inClass (top 16) 4
abbrev N_Tree_sizes : List Str := ["self", "sizes", "post"]
theorem sc_Tree_sizes : FnScope N_Tree_sizes ["self"] (defScope s_Tree_sizes) := ⟨rfl, rfl, rfl, by decide +kernel, rfl, by decide +kernel, by decide +kernel⟩
theorem k_Tree_sizes (T : Txt K mg CT CU CO) (D : Dm K CT "sizes" "Tree.sizes" s_Tree_sizes) : CalM P w K mg base 1 CT "sizes" ["self"] (spSizes CT) := by
  refine D.ok sc_Tree_sizes (fun _ _ _ _ _ _ us hl => match us, hl with | [_], _ => rfl) (fun vs H Q E h => ?_) (fun f cdv A outer s H vs Q E hr h => ?_)
  · obtain ⟨x, c, n, par, rfl, _⟩ := h
    rfl
  · obtain ⟨x, c, n, par, rfl, ht, q⟩ := h
    refine ⟨_, (pss_cons (ps_setLc (i := 1) (own := [("post", 2)])  (by rfl) sc_Tree_sizes.nd rfl rfl (sw_true rfl rfl rfl (by decide +kernel)) (pi_tup (pe_fld (pv 0) rfl)) (blkOk_by (N := N_Tree_sizes) (sc := defScope s_Tree_sizes) (by decide +kernel)) (fun _ _ _ _ _ => (pg_name (i := 2) sc_Tree_sizes.nd rfl (Or.inl rfl))) (fun _ _ _ _ _ => pts_nil) (fun _ _ _ _ _ => pe_int))
  (pss_cons (ps_for PassesOwn.never rfl (pi_range3 (by rfl) T.range (pa_cons (pe_op op_sub (pe_callB call_len_seq (by rfl) T.len (by decide +kernel) (pa_cons (pe_fld (pv 0) rfl) pa_nil)) pe_int) (pa_cons pe_int (pa_cons (pe_un un_neg pe_int) pa_nil)))) (pg_name (i := 2) sc_Tree_sizes.nd rfl (Or.inl rfl))
    (pss_one (ps_augS (pv 1) (pe_ix ix_tup (pe_fld (pv 0) rfl) (pv 2) (fun _ _ => rfl)) pget_list (pe_ix ix_list (pv 1) (pv 2) (fun _ _ => rfl)) ip_add set_list)))
  (pss_one (ps_ret (pv 1))))), ?_⟩
    have ch := ht.ch
    have hle := ch.le
    have hpos := ch.pos
    obtain ⟨dx, b, ls, h1, h2, _, h4, h5, h6⟩ := id ht
    refine ⟨_, rfl, x, CT, dx, _, _, rfl, h1, T.clT, T.tAbove, trF_above, c, rfl, ⟨_, SqT.of h2⟩, fun D nD => lc_it walk_tup (fun i H' => Same H H' ∧ H' D = some (.lst (List.replicate i (.int 1)))) ⟨(Same.refl H).put nD, upd_same⟩ (fun i H' _ h => SqT.of (h.1 _ _ h2)) ?_ ?_⟩
    · rintro i z H1 H2 hi ⟨sm, hD⟩ ⟨rfl, ez⟩
      rw [chV_len] at hi
      refine ⟨rfl, _, hD, ?_, sm.put nD, ?_⟩
      · rw [List.length_replicate]; exact sl20 (by omega)
      · rw [upd_same, rep_snoc]
    · rintro H1 ⟨sm, hD⟩
      rw [chV_len] at hD
      refine ⟨_, rfl, x, CT, dx, _, _, rfl, sm _ _ h1, T.clT, T.tAbove, trF_above, c, _, rfl, .inr (SqT.of (sm _ _ h2)), _, _, rfl, rfl, _, rfl, ?_⟩
      rw [chV_len]
      refine ⟨_, _, _, n - 1, rfl, ?_, for_it walk_rangeC (fun i σ H' => ∃ v, σ = [some (.ref x), some (.ref D), v] ∧ Same H H' ∧ H' D = some (.lst (nV ((List.range n).map (wtP n par (n - 1 - i)))))) ⟨_, rfl, sm, ?_⟩ (fun _ _ _ _ _ => True.intro) ?_ ?_⟩
      · have e := RgC.neg (i := (n : Int) - 1) (j := 0) (by omega) (by omega) (by decide) (by decide)
        have e2 : ((n : Int) - 1 - 0).toNat = n - 1 := by omega
        rw [e2] at e
        exact e
      · rw [hD]
        congr 2
        symm
        refine List.eq_replicate_iff.mpr ⟨by rw [nV_len]; simp, fun y hy => ?_⟩
        obtain ⟨a, ha, rfl⟩ := List.mem_map.mp hy
        obtain ⟨k, _, rfl⟩ := List.mem_map.mp ha
        rw [Nat.sub_zero, wtP_start ch.par]
        rfl
      · rintro i z σ H2 H3 hi ⟨v, rfl, sm2, hD2⟩ ⟨rfl, ez⟩
        obtain ⟨p, ep⟩ : ∃ p, p = n - 1 - i := ⟨_, rfl⟩
        have ez : z = V.int (p : Int) := by
          rw [ez]
          show V.int ((n : Int) - 1 + (i : Nat) * (-1)) = _
          congr 1
          omega
        subst ez
        rw [← ep] at hD2
        have hp0 : 0 < p := by omega
        have hpn : p < n := by omega
        have hlt := ch.par p hp0
        have gt : ∀ k, k < n → (nV ((List.range n).map (wtP n par p)))[k]? = some (V.int (wtP n par p k : Int)) := fun k hk => nV_get (by rw [List.getElem?_map, List.getElem?_range hk]; rfl)
        refine ⟨_, rfl, _, rfl, x, CT, dx, _, _, rfl, sm2 _ _ h1, T.clT, T.tAbove, trF_above, _, rfl, _, _, _, _, rfl, rfl, SqT.of (sm2 _ _ h2), at_ch hpn hp0, _, _, _, _, rfl, rfl, SqL.of hD2, atI_nat (gt _ (by omega)), _, rfl, _, rfl, _, _, _, _, rfl, rfl, SqL.of hD2, atI_nat (gt p hpn), _, _, rfl, rfl, _, _, _, par p, rfl, rfl, hD2, ?_, ?_⟩
        · rw [nV_len, List.length_map, List.length_range]
          exact ixN_nat (by omega)
        · refine ⟨_, rfl, sm2.put nD, ?_⟩
          rw [upd_same]
          congr 2
          have e2 : n - 1 - (i + 1) = p - 1 := by omega
          rw [e2]
          refine List.ext_getElem? fun k => ?_
          rw [List.getElem?_set, nV_len, List.length_map, List.length_range, nV, nV, List.getElem?_map, List.getElem?_map, List.getElem?_map, List.getElem?_map]
          by_cases hk : k < n
          · rw [List.getElem?_range hk]
            by_cases e : par p = k
            · subst e
              rw [if_pos rfl, if_pos hk]
              show some (V.int ((wtP n par p (par p) : Int) + (wtP n par p p : Int))) = some (V.int (wtP n par (p - 1) (par p) : Int))
              rw [wtP_step ch.par hp0 hpn, if_pos rfl, wtP_done ch.par hpn (Nat.le_refl p), Int.natCast_add]
            · rw [if_neg e]
              show some (V.int (wtP n par p k : Int)) = some (V.int (wtP n par (p - 1) k : Int))
              rw [wtP_step ch.par hp0 hpn, if_neg e, Nat.add_zero]
          · have e3 : (List.range n)[k]? = none := List.getElem?_eq_none (by rw [List.length_range]; omega)
            rw [e3, if_neg (by omega)]
            rfl
      · rintro σ H2 ⟨v, rfl, sm2, hD2⟩
        refine ⟨_, rfl, q H2 D sm2 nD ?_⟩
        rw [hD2]
        congr 3
        refine List.map_congr_left fun k hk => ?_
        have hk' := List.mem_range.mp hk
        rw [show n - 1 - (n - 1) = 0 by omega]
        exact wtP_done ch.par hk' (Nat.zero_le _)
end
end K89
set_option Elab.async false
set_option linter.all false
set_option maxRecDepth 100000
set_option maxHeartbeats 1000000
namespace K89
open PySem PySem.Spec PyProof.Rows L2

def spOpen (C : Addr) : Sp := fun vs H Q _ => ∃ (t c r : Addr) (n p : Nat) (par : Nat → Nat) (A : Fn), vs = [.ref t, .ref r, .int (p : Int)] ∧ TreeAt C H t c n par ∧ AT H r n A ∧ p < n ∧ A p = none ∧ (0 < p → ∃ z, A (par p) = some z) ∧ Q (.bl true) H
def spMove (C : Addr) : Sp := fun vs H Q _ => ∃ (H0 : Hp) (t c r : Addr) (n p : Nat) (par : Nat → Nat) (B : Fn), vs = [.ref t, .ref r, .int (p : Int)] ∧ Same H0 H ∧ TreeAt C H0 t c n par ∧ H0 r = none ∧ H r = some (.lst (arV n B)) ∧ p < n ∧ Inj n B ∧
  (∀ H', (∀ k ∈ kids n par p, B k = none) → Same H0 H' → H' r = some (.lst (arV n B)) → Q .non H') ∧
  ∀ k x H', k ∈ kids n par p → B k = some x → (∀ c' ∈ kids n par p, ∀ x', B c' = some x' → x ≤ x') → Same H0 H' → H' r = some (.lst (arV n (put1 (put1 B p (some x)) k none))) → Q (.int (k : Int)) H'
section
variable {P : Program} {w : World} {K : PySem.W.Frag} {mg : Str → Option Value} {base : Heap} {CT CU CO : Addr}
abbrev s_is_open : Stmt := top 27
abbrev N_is_open : List Str := ["tree", "rows", "post"]
theorem sc_is_open : FnScope N_is_open ["tree", "rows", "post"] (defScope s_is_open) := ⟨rfl, rfl, rfl, by decide +kernel, rfl, by decide +kernel, by decide +kernel⟩
theorem k_is_open (T : Txt K mg CT CU CO) (D : Dg K mg "is_open" s_is_open) : Cal P w K mg base 1 "is_open" ["tree", "rows", "post"] (spOpen CT) := by
  refine D.ok sc_is_open (fun _ _ _ _ _ _ us hl => match us, hl with | [_, _, _], _ => rfl) (fun vs H Q E h => ?_) (fun f cdv A outer s H vs Q E hr h => ?_)
  · obtain ⟨t, c, r, n, p, par, A, rfl, _⟩ := h
    rfl
  · obtain ⟨t, c, r, n, p, par, A, rfl, ht, hr1, hp, e1, e2, q⟩ := h
    refine ⟨_, (pss_one (ps_ret (pe_and (pe_cmpR op_isN (pe_ix ix_tup (pv 1) (pv 2) (fun _ _ => rfl)) pe_non (nomark _)) (pe_one (pe_or (pe_cmpR op_eq (pv 2) pe_int (nomark _)) (pe_one (pe_cmpR op_notN (pe_ix ix_tup (pv 1) (pe_ix ix_tup (pe_fld (pv 0) rfl) (pv 2) (fun _ _ => rfl)) (fun _ _ => rfl)) pe_non (nomark _)))))))), ?_⟩
    refine ⟨_, rfl, _, rfl, _, _, _, _, rfl, rfl, hr1.sq, at_ar hp, rfl, _, rfl, ?_⟩
    rw [e1]
    refine iteT ?_
    refine ⟨_, rfl, rfl, _, rfl, ?_⟩
    by_cases h0 : p = 0
    · refine ifT (dI_t (by omega)) ?_
      exact q
    · refine ifF (dI_f (by omega)) ?_
      obtain ⟨dx, b, ls, h1, h2, ch, h4, h5, h6⟩ := ht
      obtain ⟨z, e2⟩ := e2 (by omega)
      refine ⟨_, rfl, _, rfl, t, CT, dx, _, _, rfl, h1, T.clT, T.tAbove, trF_above, _, rfl, _, _, _, _, rfl, rfl, SqT.of h2, at_ch hp (by omega), _, _, _, _, rfl, rfl, hr1.sq, at_ar (ch.pn hp (by omega)), ?_⟩
      rw [e2]
      exact ⟨rfl, q⟩
abbrev s_move_up : Stmt := top 28
abbrev N_move_up : List Str := ["tree", "rows", "post", "held", "person", "lower"]
theorem sc_move_up : FnScope N_move_up ["tree", "rows", "post"] (defScope s_move_up) := ⟨rfl, rfl, rfl, by decide +kernel, rfl, by decide +kernel, by decide +kernel⟩
theorem k_move_up (T : Txt K mg CT CU CO) (D : Dg K mg "move_up" s_move_up) : Cal P w K mg base 1 "move_up" ["tree", "rows", "post"] (spMove CT) := by
  refine D.ok sc_move_up (fun _ _ _ _ _ _ us hl => match us, hl with | [_, _, _], _ => rfl) (fun vs H Q E h => ?_) (fun f cdv A outer s H vs Q E hr h => ?_)
  · obtain ⟨H0, t, c, r, n, p, par, B, rfl, _⟩ := h
    rfl
  · obtain ⟨H0, t, c, r, n, p, par, B, rfl, s0, ht, nr, hr1, hp, inj, q1, q2⟩ := h
    refine ⟨_, (pss_cons (ps_setLc (i := 3) (own := [("lower", 5)]) (g := gName 5) (tt := tTest (tOp rNN (tOp (rIxL K) (tVar 1) (tVar 5)) (tC .non))) (te := tTup (tCons (tOp (rIxL K) (tVar 1) (tVar 5)) (tCons (tVar 5) tNil))) (by rfl) sc_move_up.nd rfl rfl (sw_true rfl rfl rfl (by decide +kernel)) (pi_list (pe_ix ix_list (pe_fld (pv 0) rfl) (pv 2) (fun _ _ => rfl))) (blkOk_by (N := N_move_up) (sc := defScope s_move_up) (by decide +kernel)) (fun _ _ _ _ _ => (pg_name (i := 5) sc_move_up.nd rfl (Or.inl rfl))) (fun _ _ _ _ _ => (pts_one (pt_cmpR op_nn (pe_ix ix_list (pv 1) (pv 5) (fun _ _ => rfl)) pe_non (nomark _)))) (fun _ _ _ _ _ => (pe_tup (pa_cons (pe_ix ix_list (pv 1) (pv 5) (fun _ _ => rfl)) (pa_cons (pv 5) pa_nil)))))
  (pss_cons (ps_if (pt_cmpR (op_eqNil hr.units0) (pv 3) (pe_lst pa_nil) (nomark _))
    (pss_one (ps_ret pe_non)) pss_nil)
  (pss_cons (ps_asg (pe_callB (cr_minP rfl (hu_of hr)) (by rfl) T.min (by decide +kernel) (pa_cons (pv 3) pa_nil)) (pg_tup (by rfl) (pgs_cons (pg_name (i := 4) sc_move_up.nd rfl (Or.inl rfl)) (pgs_cons (pg_name (i := 5) sc_move_up.nd rfl (Or.inl rfl)) pgs_nil))))
  (pss_cons (ps_asg (pe_tup (pa_cons (pv 4) (pa_cons pe_non pa_nil))) (pg_tup (by rfl) (pgs_cons (pg_sub (pv 1) (pv 2) set_list) (pgs_cons (pg_sub (pv 1) (pv 5) set_list) pgs_nil))))
  (pss_one (ps_ret (pv 5))))))), ?_⟩
    obtain ⟨dx, b, ls, h1, h2, ch, h4, h5, h6⟩ := id ht
    have hle := ch.le
    have hpl : p < ls.length := by omega
    have hg : ls[p]? = some ls[p] := List.getElem?_eq_getElem hpl
    have hk := h6 _ _ hg
    have hat : atI (ls.map V.ref) (p : Int) = some (V.ref ls[p]) := atI_nat (by rw [List.getElem?_map, hg]; rfl)
    refine ⟨_, rfl, t, CT, dx, _, _, rfl, s0 _ _ h1, T.clT, T.tBelow, trF_below, _, rfl, _, _, _, _, rfl, rfl, SqL.of (s0 _ _ h4), hat, _, rfl, ⟨_, SqL.of (s0 _ _ hk)⟩, fun D nD => lc_it (walk_list (xs := nV (kids n par p))) (fun i H' => Same H0 H' ∧ H' r = some (.lst (arV n B)) ∧ ∃ hs, H' D = some (.lst (pV hs)) ∧ PairsAt H' hs ∧ hs.length ≤ i ∧ hs.map (·.2) = ((kids n par p).take i).filterMap fun k => (B k).map fun x => (x, k))
      ?_ (fun i H' _ h => SqL.of (h.1 _ _ hk)) ?_ ?_⟩
    · exact ⟨s0.put (s0.nw nD), Eq.trans (upd_ne (ne_of_none hr1 nD)) hr1, [], upd_same, (fun q h => by simp at h), Nat.le_refl _, rfl⟩
    · rintro i z H1 H2 hi ⟨sm, hr2, hs, hD, hP, hl, hm⟩ ⟨rfl, ez⟩
      rw [nV_len] at hi
      have hgi : (kids n par p)[i]? = some (kids n par p)[i] := List.getElem?_eq_getElem hi
      rw [nV_get hgi] at ez
      cases ez
      obtain ⟨k, ek⟩ : ∃ k, k = (kids n par p)[i] := ⟨_, rfl⟩
      rw [← ek] at hgi ⊢
      have hkn : k < n := (mem_kids.mp (List.mem_of_getElem? hgi)).1
      have hkl := kids_le (n := n) (par := par) (p := p)
      refine ⟨rfl, _, rfl, _, rfl, _, _, _, _, rfl, rfl, SqL.of hr2, at_ar hkn, rfl, _, rfl, ?_⟩
      cases e : B k with
      | none =>
        refine ifF nn_non ?_
        refine ⟨sm, hr2, hs, hD, hP, by omega, ?_⟩
        rw [List.take_succ, hgi, List.filterMap_append, hm]
        simp [e]
      | some x =>
        refine ifT nn_int ?_
        refine ⟨_, rfl, _, rfl, _, _, _, _, rfl, rfl, SqL.of hr2, at_ar hkn, _, rfl, by show 2 ≤ sizeLine; decide, fun u nu => ?_⟩
        have hDu : D ≠ u := ne_of_none hD nu
        refine ⟨_, Eq.trans (upd_ne hDu) hD, ?_, (sm.up nu).put (s0.nw nD), ?_, hs ++ [(u, x, k)], ?_, fun y hy => ?_, ?_, ?_⟩
        · simp only [pV, List.length_map]
          exact sl20 (by omega)
        · rw [upd_ne (ne_of_none hr1 nD), upd_ne (ne_of_none hr2 nu)]
          exact hr2
        · rw [upd_same, pV, pV, List.map_append]
          rfl
        · have nD0 := s0.nw nD
          rcases List.mem_append.mp hy with hy | hy
          · have := hP y hy
            have h1' : y.1 ≠ u := ne_of_none this nu
            have h2' : y.1 ≠ D := ne_of this hD (fun z => nomatch z)
            rw [upd_ne h2', upd_ne h1']
            exact this
          · rw [List.mem_singleton.mp hy]
            rw [upd_ne hDu.symm, upd_same, e]
            rfl
        · rw [List.length_append]
          simp
          omega
        · rw [List.map_append, List.take_succ, hgi, List.filterMap_append, hm]
          simp [e]
    · rintro H1 ⟨sm, hr2, hs, hD, hP, hl, hm⟩
      rw [nV_len] at hl hm
      rw [List.take_length] at hm
      refine ⟨_, rfl, Nat.zero_le _, fun u nu => ?_⟩
      have hDu : D ≠ u := ne_of_none hD nu
      refine ⟨_, _, _, rfl, rfl, SqL.of (Eq.trans (upd_ne hDu) hD), SqL.of upd_same, _, rfl, ?_⟩
      have sm2 := sm.up (o := .lst []) nu
      cases hs with
      | nil =>
        refine iteT ?_
        refine q1 _ (fun k hk => ?_) sm2 (Eq.trans (upd_ne (ne_of_none hr2 nu)) hr2)
        cases e : B k with
        | none => rfl
        | some x =>
          have : (x, k) ∈ (kids n par p).filterMap fun k => (B k).map fun x => (x, k) := List.mem_filterMap.mpr ⟨k, hk, by rw [e]; rfl⟩
          rw [← hm] at this
          cases this
      | cons q0 hs0 =>
        refine iteF ?_
        have hP2 : PairsAt (upd H1 u (.lst [])) (q0 :: hs0) := fun y hy => Eq.trans (upd_ne (ne_of_none (hP y hy) nu)) (hP y hy)
        have mem : ∀ y ∈ q0 :: hs0, y.2.2 ∈ kids n par p ∧ B y.2.2 = some y.2.1 := fun y hy => by
          have : y.2 ∈ (kids n par p).filterMap fun k => (B k).map fun x => (x, k) := by rw [← hm]; exact List.mem_map.mpr ⟨y, hy, rfl⟩
          obtain ⟨k, hk1, hk2⟩ := List.mem_filterMap.mp this
          cases e : B k with
          | none => rw [e] at hk2; cases hk2
          | some x =>
            rw [e] at hk2
            have e2 : (x, k) = y.2 := Option.some.inj hk2
            rw [← e2]
            exact ⟨hk1, e⟩
        refine ⟨_, rfl, D, _, kOf (upd H1 u (.lst [])), rfl, SqL.of (Eq.trans (upd_ne hDu) hD), List.cons_ne_nil _ _, fun z hz => ?_, fun z hz y hy ez => ?_, fun z hz hmin => ?_⟩
        · obtain ⟨y, hy, rfl⟩ := List.mem_map.mp hz
          refine ⟨y.1, rfl, ?_⟩
          rw [kOf_at (hP2 y hy)]
          exact hP2 y hy
        · obtain ⟨a, ha, rfl⟩ := List.mem_map.mp hz
          obtain ⟨b', hb', rfl⟩ := List.mem_map.mp hy
          rw [kOf_at (hP2 a ha), kOf_at (hP2 b' hb')] at ez ⊢
          have ez : (a.2.1 : Int) = (b'.2.1 : Int) := ez
          obtain ⟨m1, m2⟩ := mem a ha
          obtain ⟨m3, m4⟩ := mem b' hb'
          have ez' : a.2.1 = b'.2.1 := by omega
          rw [ez'] at m2
          show (a.2.2 : Int) = (b'.2.2 : Int)
          rw [inj _ _ _ (mem_kids.mp m1).1 (mem_kids.mp m3).1 m2 m4]
        · obtain ⟨y, hy, rfl⟩ := List.mem_map.mp hz
          obtain ⟨m1, m2⟩ := mem y hy
          have hkn := (mem_kids.mp m1).1
          have hk0 := (mem_kids.mp m1).2.1
          have hkp := (mem_kids.mp m1).2.2
          have hlt := ch.par _ hk0
          refine ⟨_, _, rfl, SqT.of (hP2 y hy), rfl, _, _, rfl, _, _, rfl, rfl, ?_⟩
          refine ⟨_, rfl, by show 2 ≤ sizeLine; decide, fun v nv => ?_⟩
          have rv : r ≠ v := ne_of_none (Eq.trans (upd_ne (ne_of_none hr2 nu)) hr2) nv
          have hr3 : upd (upd H1 u (.lst [])) v (.tup [V.int (y.2.1 : Int), V.non]) r = some (.lst (arV n B)) := by rw [upd_ne rv, upd_ne (ne_of_none hr2 nu)]; exact hr2
          refine ⟨_, _, rfl, SqT.of upd_same, rfl, _, _, rfl, _, rfl, _, rfl, _, _, _, p, rfl, rfl, hr3, ?_, _, _, rfl, _, rfl, _, rfl, _, _, _, y.2.2, rfl, rfl, upd_same, ?_, rfl, _, rfl, ?_⟩
          · rw [arV_len]; exact ixN_nat hp
          · rw [List.length_set, arV_len]; exact ixN_nat hkn
          · refine q2 y.2.2 y.2.1 _ m1 m2 (fun c' hc' x' ex' => ?_) (((sm2.up nv).put nr).put nr) ?_
            · have : (x', c') ∈ ((q0 :: hs0).map (·.2)) := by rw [hm]; exact List.mem_filterMap.mpr ⟨c', hc', by rw [ex']; rfl⟩
              obtain ⟨y', hy', e'⟩ := List.mem_map.mp this
              have h3 := hmin _ (List.mem_map.mpr ⟨y', hy', rfl⟩)
              rw [kOf_at (hP2 y hy), kOf_at (hP2 y' hy')] at h3
              have h3 : (y.2.1 : Int) ≤ (y'.2.1 : Int) := h3
              rw [e'] at h3
              have h3 : (y.2.1 : Int) ≤ (x' : Int) := h3
              omega
            · rw [upd_same]
              congr 2
              have e1 : (arV n B).set p (V.int (y.2.1 : Int)) = arV n (put1 B p (some y.2.1)) := arV_set (x := some y.2.1) hp
              rw [e1]
              exact arV_set (x := none) hkn
end
end K89
set_option Elab.async false
set_option linter.all false
set_option maxRecDepth 100000
set_option maxHeartbeats 1000000
namespace K89
open PySem PySem.Spec PyProof.Rows L2

def spLeaveOne (C : Addr) : Sp := fun vs H Q _ => ∃ (H0 : Hp) (t c r : Addr) (n q x : Nat) (par : Nat → Nat) (A : Fn), vs = [.ref t, .ref r, .int (x : Int)] ∧ Same H0 H ∧ TreeAt C H0 t c n par ∧ H0 r = none ∧ H r = some (.lst (arV n A)) ∧ q < n ∧ Inj n A ∧ A q = some x ∧
  ∀ A' e H', Goes n par (put1 A q none) q A' e → Same H0 H' → H' r = some (.lst (arV n A')) → Q (.int (e : Int)) H'
def spJoinOne (C : Addr) : Sp := fun vs H Q _ => ∃ (H0 : Hp) (t c r : Addr) (n p x : Nat) (par : Nat → Nat) (A B : Fn), vs = [.ref t, .ref r, .int (x : Int), .int (p : Int)] ∧ Same H0 H ∧ TreeAt C H0 t c n par ∧ H0 r = none ∧ H r = some (.lst (arV n A)) ∧ Left n par B x A p ∧
  ∀ H', Same H0 H' → H' r = some (.lst (arV n B)) → Q .non H'
/-- B: the same people, each risen on the way up -/
structure Red (n : Nat) (par : Nat → Nat) (A B : Fn) (xs : List Nat) : Prop where
  inj : Inj n A
  arr : Arr n par B
  nd : xs.Nodup
  mem : ∀ y, y ∈ xs ↔ ∃ k, k < n ∧ B k = some y
  rise : ∀ k y, k < n → B k = some y → ∃ j, j < n ∧ A j = some y ∧ k ∈ ups par j
def spRed (C : Addr) : Sp := fun vs H Q _ => ∃ (t c v l : Addr) (n : Nat) (par : Nat → Nat) (A B : Fn) (xs : List Nat), vs = [.ref t, .ref v, .ref l] ∧ TreeAt C H t c n par ∧ AT H v n A ∧ H l = some (.lst (nV xs)) ∧ Red n par A B xs ∧
  ∀ H' u, Same H H' → H u = none → AT H' u n B → Q (.ref u) H'
section
variable {P : Program} {w : World} {K : PySem.W.Frag} {mg : Str → Option Value} {base : Heap} {CT CU CO : Addr}
theorem inj_put_none {n q : Nat} {A : Fn} (i : Inj n A) : Inj n (put1 A q none) := by
  intro a b y ha hb ea eb
  unfold put1 at ea eb
  by_cases c1 : a = q
  · simp [c1] at ea
  by_cases c2 : b = q
  · simp [c2] at eb
  rw [if_neg c1] at ea
  rw [if_neg c2] at eb
  exact i a b y ha hb ea eb
/-- between the turns of leave_one and of chain: the hole at p is closed, or the one below at k has just left its post -/
def LvW (H0 : Hp) (t r : Addr) (n : Nat) (par : Nat → Nat) (A0 : Fn) (q x : Nat) (m : Nat) (σ : L2.St) (H' : Hp) : Prop :=
  Same H0 H' ∧ ∃ (p : Nat) (l : V) (B : Fn), σ = [some (.ref t), some (.ref r), some (.int (x : Int)), some (.int (p : Int)), some l] ∧ H' r = some (.lst (arV n B)) ∧ ((l = .non ∧ Goes n par A0 q B p) ∨ (∃ k : Nat, l = .int (k : Int) ∧ k < n ∧ B k = none ∧ Inj n B ∧ m = n - k ∧ ∀ A' e, Goes n par B k A' e → Goes n par A0 q A' e))
abbrev s_leave_one : Stmt := top 29
abbrev N_leave_one : List Str := ["tree", "rows", "person", "post", "lower"]
theorem sc_leave_one : FnScope N_leave_one ["tree", "rows", "person"] (defScope s_leave_one) := ⟨rfl, rfl, rfl, by decide +kernel, rfl, by decide +kernel, by decide +kernel⟩
theorem k_leave_one (T : Txt K mg CT CU CO) (D : Dg K mg "leave_one" s_leave_one) (c_move_up : Cal P w K mg base 1 "move_up" ["tree", "rows", "post"] (spMove CT)) : Cal P w K mg base 2 "leave_one" ["tree", "rows", "person"] (spLeaveOne CT) := by
  refine D.ok sc_leave_one (fun _ _ _ _ _ _ us hl => match us, hl with | [_, _, _], _ => rfl) (fun vs H Q E h => ?_) (fun f cdv A outer s H vs Q E hr h => ?_)
  · obtain ⟨H0, t, c, r, n, q, x, par, A, rfl, _⟩ := h
    rfl
  · obtain ⟨H0, t, c, r, n, q, x, par, A, rfl, s0, ht, nr, hr1, hq, inj, eq, k⟩ := h
    refine ⟨_, (pss_cons (ps_set (i := 3) sc_leave_one.nd rfl (Or.inl rfl) (pe_bm PySem.F.plainAttrs_list PySem.F.slot_list_index PySem.F.type_list_index mt_index (pv 1) (pa_cons (pv 2) pa_nil)))
  (pss_cons (ps_asg pe_non (pg_sub (pv 1) (pv 3) set_list))
  (Evl.pss_cut (ps_set (i := 4) sc_leave_one.nd rfl (Or.inl rfl) (pe_cal c_move_up (hr.mono (by decide)) (by rfl) (pa_cons (pv 0) (pa_cons (pv 1) (pa_cons (pv 3) pa_nil)))))
  (pss_cons (ps_while PassesOwn.never (pt_cmpR op_notN (pv 4) pe_non (nomark _))
    (pss_cons (ps_set (i := 3) sc_leave_one.nd rfl (Or.inl rfl) (pv 4))
  (pss_one (ps_set (i := 4) sc_leave_one.nd rfl (Or.inl rfl) (pe_cal c_move_up (hr.mono (by decide)) (by rfl) (pa_cons (pv 0) (pa_cons (pv 1) (pa_cons (pv 3) pa_nil))))))))
  (pss_one (ps_ret (pv 3))))))), ?_⟩
    have ch := ht.ch
    refine ⟨_, rfl, .inl ⟨rfl, _, SqL.of hr1⟩, _, rfl, r, _, _, q, _, rfl, rfl, SqL.of hr1, rfl, fl_all fl_ar, arV_get hq, ?_, ar_first inj hq eq, ?_⟩
    · rw [eq]
      show ((x : Int) == (x : Int)) = true
      simp
    refine ⟨_, rfl, _, rfl, _, _, _, q, rfl, rfl, hr1, by rw [arV_len]; exact ixN_nat hq, ?_⟩
    have e1 : (arV n A).set q V.non = arV n (put1 A q none) := arV_set (x := none) hq
    rw [e1]
    have inj1 : Inj n (put1 A q none) := inj_put_none inj
    refine ⟨fun σ H' => ∃ m, LvW H0 t r n par (put1 A q none) q x m σ H', ⟨_, rfl, _, rfl, _, rfl, H0, t, c, r, n, q, par, put1 A q none, rfl, s0.put nr, ht, nr, upd_same, hq, inj1, fun H1 hk s1 hr2 => ?_, fun k1 x1 H1 m1 m2 m3 s1 hr2 => ?_⟩, ?_⟩
    · exact ⟨0, s1, q, .non, _, rfl, hr2, .inl ⟨rfl, .stop _ _ hk⟩⟩
    · have hk1 := mem_kids.mp m1
      exact ⟨n - k1, s1, q, _, _, rfl, hr2, .inr ⟨k1, rfl, hk1.1, put1_same, inj_move ch.par inj1 put1_same m1 m2, rfl, fun A' e g => .step _ _ k1 x1 _ _ m1 m2 m3 g⟩⟩
    · rintro σ1 H1 ⟨m0, w0⟩
      refine ⟨LvW H0 t r n par (put1 A q none) q x, ⟨m0, w0⟩, ?_⟩
      rintro m σ H2 ⟨s2, p, l, B, rfl, hr2, hl⟩
      refine ⟨_, rfl, rfl, _, rfl, ?_⟩
      rcases hl with ⟨rfl, g⟩ | ⟨k1, rfl, hk1, hB, injB, rfl, hg⟩
      · refine ifF nn_non ?_
        exact ⟨_, rfl, k _ _ _ g s2 hr2⟩
      · refine ifT nn_int ?_
        refine ⟨fun σ' H' => ∃ m', m' < n - k1 ∧ LvW H0 t r n par (put1 A q none) q x m' σ' H', fun _ _ z => z, ?_⟩
        refine ⟨_, rfl, _, rfl, _, rfl, _, rfl, H0, t, c, r, n, k1, par, B, rfl, s2, ht, nr, hr2, hk1, injB, fun H3 hk s3 hr3 => ?_, fun k2 x2 H3 m1 m2 m3 s3 hr3 => ?_⟩
        · exact ⟨0, by omega, s3, k1, .non, _, rfl, hr3, .inl ⟨rfl, hg _ _ (.stop _ _ hk)⟩⟩
        · have hk2 := mem_kids.mp m1
          have := ch.par k2 hk2.2.1
          exact ⟨n - k2, by omega, s3, k1, _, _, rfl, hr3, .inr ⟨k2, rfl, hk2.1, put1_same, inj_move ch.par injB hB m1 m2, rfl, fun A' e g => hg _ _ (.step _ _ k2 x2 _ _ m1 m2 m3 g)⟩⟩
end
end K89
set_option Elab.async false
set_option linter.all false
set_option maxRecDepth 100000
set_option maxHeartbeats 1000000
namespace K89
open PySem PySem.Spec PyProof.Rows L2

section
variable {P : Program} {w : World} {K : PySem.W.Frag} {mg : Str → Option Value} {base : Heap} {CT CU CO : Addr}
abbrev s_join_one : Stmt := top 30
abbrev N_join_one : List Str := ["tree", "rows", "person", "post", "path", "people", "upper", "holder"]
theorem sc_join_one : FnScope N_join_one ["tree", "rows", "person", "post"] (defScope s_join_one) := ⟨rfl, rfl, rfl, by decide +kernel, rfl, by decide +kernel, by decide +kernel⟩
theorem k_join_one (T : Txt K mg CT CU CO) (D : Dg K mg "join_one" s_join_one) (cm_path : CalM P w K mg base 1 CT "path" ["self", "post"] (spPath CT)) : Cal P w K mg base 2 "join_one" ["tree", "rows", "person", "post"] (spJoinOne CT) := by
  refine D.ok sc_join_one (fun _ _ _ _ _ _ us hl => match us, hl with | [_, _, _, _], _ => rfl) (fun vs H Q E h => ?_) (fun f cdv A outer s H vs Q E hr h => ?_)
  · obtain ⟨H0, t, c, r, n, p, x, par, A, B, rfl, _⟩ := h
    rfl
  · obtain ⟨H0, t, c, r, n, p, x, par, A, B, rfl, s0, ht, nr, hr1, lf, k⟩ := h
    refine ⟨_, (pss_cons (ps_set (i := 4) sc_join_one.nd rfl (Or.inl rfl) (pe_mth cm_path (hr.mono (by decide)) (pv 0) (pa_cons (pv 3) pa_nil)))
  (pss_cons (ps_set (i := 5) sc_join_one.nd rfl (Or.inl rfl) (pe_callB cr_sortedI (by rfl) T.sorted (by decide +kernel) (pa_cons (pe_op op_cat (pe_lc (own := [("upper", 6)]) (g := gName 6) (tt := tYes) (te := tOp (rIxL K) (tVar 1) (tVar 6)) (by rfl) sc_join_one.nd (pi_list (pe_slice sl_list (pv 4) po_none (po_some (pe_un un_neg pe_int)))) (blkOk_by (N := N_join_one) (sc := defScope s_join_one) (by decide +kernel)) (fun _ _ _ _ _ => (pg_name (i := 6) sc_join_one.nd rfl (Or.inl rfl))) (fun _ _ _ _ _ => pts_nil) (fun _ _ _ _ _ => (pe_ix ix_list (pv 1) (pv 6) (fun _ _ => rfl)))) (pe_lst (pa_cons (pv 2) pa_nil))) pa_nil)))
  (pss_one (ps_for PassesOwn.never rfl (pi_zipS (by rfl) T.zip (pa_cons (pv 4) (pa_cons (pv 5) pa_nil)) (pk_cons pe_bl pk_nil)) (pg_tup (by rfl) (pgs_cons (pg_name (i := 6) sc_join_one.nd rfl (Or.inl rfl)) (pgs_cons (pg_name (i := 7) sc_join_one.nd rfl (Or.inl rfl)) pgs_nil)))
    (pss_one (ps_asg (pv 7) (pg_sub (pv 1) (pv 6) set_list))))))), ?_⟩
    have ch := ht.ch
    have hle := ch.le
    obtain ⟨dx, b, ls, h1, h2, _, h4, h5, h6⟩ := id ht
    refine ⟨_, rfl, t, dx, _, rfl, s0 _ _ h1, trF_no (by decide +kernel) (by decide +kernel), _, rfl, t, c, n, p, par, rfl, ht.mono s0, lf.lt, fun H1 l sH nl hl => ?_⟩
    have s1 := s0.trans sH
    have hr2 := sH _ _ hr1
    obtain ⟨pre, epre⟩ : ∃ pre, pre = (ups par p).tail.reverse := ⟨_, rfl⟩
    have epath : path par p = pre ++ [p] := by rw [epre]; exact path_self ch.par
    have hl2 : H1 l = some (.lst (nV pre ++ [V.int (p : Int)])) := by rw [hl, epath, nV_app, nV_one]
    refine ⟨_, rfl, _, rfl, _, rfl, l, _, rfl, SqL.of hl2, fun u nu => ?_⟩
    rw [cut_last]
    have lu : l ≠ u := ne_of_none hl nu
    have ru : r ≠ u := ne_of_none hr2 nu
    have rl : r ≠ l := ne_of_none hr1 nl
    have memp : ∀ k ∈ path par p, k < n ∧ ∃ y, B k = some y := fun k hk => by
      have h3 := (mem_path ch.par).mp hk
      have := ups_le ch.par k h3
      have := lf.lt
      exact ⟨by omega, lf.held k h3⟩
    have mempre : ∀ k ∈ pre, k < n ∧ ∃ y, A k = some y := fun k hk => by
      have h3 := memp k (by rw [epath]; exact List.mem_append_left _ hk)
      refine ⟨h3.1, lf.full k ?_⟩
      rw [epre] at hk
      exact List.mem_reverse.mp hk
    have prelen : pre.length < n := by
      have h3 := (path_inc ch.par (p := p))
      have : (path par p).length ≤ n := by
        have nd : (path par p).Nodup := h3.imp fun h => Nat.ne_of_lt h
        have sub : ∀ k ∈ path par p, k ∈ List.range n := fun k hk => List.mem_range.mpr (memp k hk).1
        have := nd.length_le_of_subset sub
        rwa [List.length_range] at this
      rw [epath, List.length_append] at this
      simp at this
      omega
    refine ⟨_, rfl, ⟨_, SqL.of upd_same⟩, fun D nD => lc_it (walk_list (xs := nV pre)) (fun i H' => Same (upd H1 u (.lst (nV pre))) H' ∧ H' D = some (.lst (nV ((pre.take i).map fun k => (A k).getD 0)))) ⟨(Same.refl _).put nD, upd_same⟩ (fun i H' _ h => SqL.of (h.1 _ _ upd_same)) ?_ ?_⟩
    · rintro i z H2 H3 hi ⟨sm, hD⟩ ⟨rfl, ez⟩
      rw [nV_len] at hi
      have hg : pre[i]? = some pre[i] := List.getElem?_eq_getElem hi
      rw [nV_get hg] at ez
      cases ez
      obtain ⟨m1, y, ey⟩ := mempre _ (List.getElem_mem hi)
      refine ⟨rfl, _, rfl, _, rfl, _, _, _, _, rfl, rfl, SqL.of (sm _ _ (Eq.trans (upd_ne ru) hr2)), at_ar m1, _, hD, ?_, sm.put nD, ?_⟩
      · rw [nV_len, List.length_map, List.length_take]
        exact sl20 (by omega)
      · rw [upd_same, List.take_succ, hg, ey, List.map_append, nV_app]
        simp only [Option.toList_some, List.map_cons, List.map_nil, ey, Option.getD_some, nV_one]
        rfl
    · rintro H2 ⟨sm, hD⟩
      rw [nV_len, List.take_length] at hD
      refine ⟨_, rfl, by show 1 ≤ sizeLine; decide, fun v nv => ?_⟩
      have hDv : D ≠ v := ne_of_none hD nv
      refine ⟨_, _, _, _, rfl, rfl, Eq.trans (upd_ne hDv) hD, upd_same, ?_, fun y ny => ?_⟩
      · rw [nV_len, List.length_map]
        exact Nat.le_of_lt (sl20 (by simp; omega))
      obtain ⟨ys, eys⟩ : ∃ ys, ys = (path par p).map fun k => (B k).getD 0 := ⟨_, rfl⟩
      have eys2 : (path par p).filterMap B = ys := by rw [eys]; exact filterMap_some fun k hk => (memp k hk).2
      have hperm : ys.Perm ((pre.map fun k => (A k).getD 0) ++ [x]) := by
        rw [← eys2, ← filterMap_some (A := A) fun k hk => (mempre k hk).2, epre, List.filterMap_reverse, path, List.filterMap_reverse]
        refine (List.reverse_perm _).trans (lf.perm.symm.trans ?_)
        refine (List.reverse_perm _).symm.trans ?_
        rw [List.reverse_cons]
      have hsort : ys.Pairwise (· < ·) := by
        rw [← eys2]
        refine List.pairwise_filterMap.mpr (lf.sorted.imp fun h => ?_)
        intro a ha b hb
        exact h a b ha hb
      refine ⟨y, ((pre.map fun k => (A k).getD 0) ++ [x]).map fun a => ((a : Nat) : Int), rfl, SqL.of ?_, fun ns' z pm so nz => ?_⟩
      · rw [upd_same, ← nV_int, nV_app, nV_one]
      have ens := sort_uniq pm so hperm hsort
      subst ens
      rw [← nV_int] at *
      have ylen : ys.length = (path par p).length := by rw [eys, List.length_map]
      have a1 : upd (upd H1 u (.lst (nV pre))) D (.lst []) l = upd (upd H1 u (.lst (nV pre))) D (.lst []) l := rfl
      have sA : Same (upd H1 u (.lst (nV pre))) (upd (upd (upd H2 v (.lst [V.int (x : Int)])) y (.lst (nV (pre.map fun k => (A k).getD 0) ++ [V.int (x : Int)]))) z (.lst (nV ys))) := ((sm.up nv).up ny).up nz
      have sB : Same H1 (upd H1 u (.lst (nV pre))) := Same.up (Same.refl _) nu
      have sC := sB.trans sA
      refine ⟨_, rfl, _, rfl, l, z, _, _, rfl, rfl, SqL.of (sC _ _ hl), SqL.of upd_same, by rw [nV_len, nV_len, ylen], for_it (walk_zipS (nV_len (l := path par p)) (by rw [nV_len, ylen])) (fun i σ H' => ∃ a b, σ = [some (.ref t), some (.ref r), some (.int (x : Int)), some (.int (p : Int)), some (.ref l), some (.ref z), a, b] ∧ Same H0 H' ∧ H' l = some (.lst (nV (path par p))) ∧ H' z = some (.lst (nV ys)) ∧ H' r = some (.lst (arV n (mix A B ((path par p).take i)))))
        ⟨_, _, rfl, s1.trans sC, sC _ _ hl, upd_same, ?_⟩ (fun i σ H' _ ⟨_, _, _, _, q1, q2, _⟩ => ⟨SqL.of q1, SqL.of q2⟩) ?_ ?_⟩
      · rw [List.take_zero, mix_nil]
        exact sC _ _ hr2
      · rintro i w1 σ H3 H4 hi ⟨a, b', rfl, s3, q1, q2, q3⟩ ⟨u2, x1, y1, rfl, nu2, rfl, e1, e2⟩
        have hg : (path par p)[i]? = some (path par p)[i] := List.getElem?_eq_getElem hi
        obtain ⟨m1, yy, ey⟩ := memp _ (List.getElem_mem hi)
        have e1 : (nV (path par p))[i]? = some x1 := e1
        have e2 : (nV ys)[i]? = some y1 := e2
        rw [nV_get hg] at e1
        cases e1
        have hy : ys[i]? = some yy := by rw [eys, List.getElem?_map, hg]; simp [ey]
        rw [nV_get hy] at e2
        cases e2
        refine ⟨_, _, rfl, SqT.of upd_same, rfl, _, _, rfl, _, _, rfl, rfl, ?_⟩
        refine ⟨_, rfl, _, rfl, _, rfl, _, _, _, _, rfl, rfl, Eq.trans (upd_ne (ne_of_none q3 nu2)) q3, by rw [arV_len]; exact ixN_nat m1, ?_⟩
        have rz : r ≠ z := ne_of_none (((sB.trans (sm.up nv)).up ny) _ _ hr2) nz
        refine ⟨_, _, rfl, (s3.up nu2).put nr, Eq.trans (upd_ne rl.symm) (Eq.trans (upd_ne (ne_of_none q1 nu2)) q1), Eq.trans (upd_ne rz.symm) (Eq.trans (upd_ne (ne_of_none q2 nu2)) q2), ?_⟩
        rw [upd_same]
        have e3 : (arV n (mix A B ((path par p).take i))).set (path par p)[i] (V.int (yy : Int)) = arV n (put1 (mix A B ((path par p).take i)) (path par p)[i] (some yy)) := arV_set (x := some yy) m1
        rw [e3, ← ey, mix_snoc, List.take_succ, hg]
        rfl
      · rintro σ H3 ⟨a, b', rfl, s3, q1, q2, q3⟩
        refine k H3 s3 ?_
        rw [q3, List.take_length, arV_congr fun k hk => by rw [mix_all]; exact fun j hj => lf.same j fun hm => hj ((mem_path ch.par).mpr hm)]
end
end K89
set_option Elab.async false
set_option linter.all false
set_option maxRecDepth 100000
set_option maxHeartbeats 1000000
namespace K89
open PySem PySem.Spec PyProof.Rows L2

section
variable {P : Program} {w : World} {K : PySem.W.Frag} {mg : Str → Option Value} {base : Heap} {CT CU CO : Addr}
theorem oV_non {x : Option Nat} : decide (oV x = V.non) = decide (x = none) := by
  cases x with
  | none => simp [oV]
  | some a => simp [oV]
abbrev s_reduced_arrangement : Stmt := top 31
abbrev N_reduced_arrangement : List Str := ["tree", "arrangement", "people", "posts", "rows", "person", "free", "post"]
theorem sc_reduced_arrangement : FnScope N_reduced_arrangement ["tree", "arrangement", "people"] (defScope s_reduced_arrangement) := ⟨rfl, rfl, rfl, by decide +kernel, rfl, by decide +kernel, by decide +kernel⟩
theorem k_reduced_arrangement (T : Txt K mg CT CU CO) (D : Dg K mg "reduced_arrangement" s_reduced_arrangement) (cm_path : CalM P w K mg base 1 CT "path" ["self", "post"] (spPath CT)) (c_posts_of_people : Cal P w K mg base 1 "posts_of_people" ["arrangement"] spPosts) :
    Cal P w K mg base 2 "reduced_arrangement" ["tree", "arrangement", "people"] (spRed CT) := by
  refine D.ok sc_reduced_arrangement (fun _ _ _ _ _ _ us hl => match us, hl with | [_, _, _], _ => rfl) (fun vs H Q E h => ?_) (fun f cdv A outer s H vs Q E hr h => ?_)
  · obtain ⟨t, c, v, l, n, par, A, B, xs, rfl, _⟩ := h
    rfl
  · obtain ⟨t, c, v, l, n, par, A, B, xs, rfl, ht, hv, hl, rd, q⟩ := h
    refine ⟨_, (pss_cons (ps_set (i := 3) sc_reduced_arrangement.nd rfl (Or.inl rfl) (pe_cal c_posts_of_people (hr.mono (by decide)) (by rfl) (pa_cons (pv 1) pa_nil)))
  (pss_cons (ps_set (i := 4) sc_reduced_arrangement.nd rfl (Or.inr rfl) (pe_lc (own := [("person", 5)])  (by rfl) sc_reduced_arrangement.nd (pi_tup (pv 1)) (blkOk_by (N := N_reduced_arrangement) (sc := defScope s_reduced_arrangement) (by decide +kernel)) (fun _ _ _ _ _ => (pg_name (i := 5) sc_reduced_arrangement.nd rfl (Or.inl rfl))) (fun _ _ _ _ _ => pts_nil) (fun _ _ _ _ _ => pe_non)))
  (pss_cons (ps_for PassesOwn.never rfl (pi_list (pe_callB cr_sortedI (by rfl) T.sorted (by decide +kernel) (pa_cons (pv 2) pa_nil))) (pg_name (i := 5) sc_reduced_arrangement.nd rfl (Or.inl rfl))
    (pss_cons (ps_setLc (i := 6) (own := [("post", 7)]) (g := gName 7) (tt := tTest (tOp rNi (tOp (rIxL K) (tVar 4) (tVar 7)) (tC .non))) (te := tVar 7) (by rfl) sc_reduced_arrangement.nd rfl rfl (sw_true rfl rfl rfl (by decide +kernel)) (pi_list (pe_mth cm_path (hr.mono (by decide)) (pv 0) (pa_cons (pe_dget (hu_of hr) (pv 3) (pv 5) (fun _ _ => rfl)) pa_nil))) (blkOk_by (N := N_reduced_arrangement) (sc := defScope s_reduced_arrangement) (by decide +kernel)) (fun _ _ _ _ _ => (pg_name (i := 7) sc_reduced_arrangement.nd rfl (Or.inl rfl))) (fun _ _ _ _ _ => (pts_one (pt_cmpR op_ni (pe_ix ix_list (pv 4) (pv 7) (fun _ _ => rfl)) pe_non (nomark _)))) (fun _ _ _ _ _ => (pv 7)))
  (pss_one (ps_asg (pv 5) (pg_sub (pv 4) (pe_ix ix_list (pv 6) pe_int (fun _ _ => rfl)) set_list)))))
  (pss_one (ps_ret (pe_callTy call_tupleF (by rfl) T.tuple (by decide +kernel) (pa_cons (pv 4) pa_nil))))))), ?_⟩
    have ch := ht.ch
    have hle := ch.le
    refine ⟨_, rfl, v, n, A, rfl, hv, hle, rd.inj, fun H1 d kvs s1 nd hd hk => ?_⟩
    refine ⟨_, rfl, v, rfl, ⟨_, (hv.mono s1).sq⟩, fun r nr => lc_it (walk_tup (xs := arV n A)) (fun i H' => Same H1 H' ∧ H' r = some (.lst (List.replicate i .non))) ⟨(Same.refl H1).put nr, upd_same⟩ (fun i H' _ h => ((hv.mono s1).mono h.1).sq) ?_ ?_⟩
    · rintro i z H2 H3 hi ⟨sm, hr2⟩ ⟨rfl, ez⟩
      rw [arV_len] at hi
      refine ⟨rfl, _, hr2, ?_, sm.put nr, ?_⟩
      · rw [List.length_replicate]; exact sl20 (by omega)
      · rw [upd_same, rep_snoc]
    · rintro H2 ⟨s2, hr2⟩
      rw [arV_len] at hr2
      have hr3 : H2 r = some (.lst (arV n (sub B []))) := by
        rw [hr2]
        congr 2
        symm
        refine List.eq_replicate_iff.mpr ⟨arV_len, fun y hy => ?_⟩
        obtain ⟨a, _, rfl⟩ := List.mem_map.mp hy
        rw [sub_nil]
        rfl
      refine ⟨_, rfl, l, xs.map fun a => ((a : Nat) : Int), rfl, SqL.of (by rw [← nV_int]; exact s2 _ _ (s1 _ _ hl)), fun ns' z pm so nz => ?_⟩
      obtain ⟨S, rfl, pS, sS⟩ := sort_nat pm so
      rw [← nV_int]
      have ndS : S.Nodup := pS.nodup_iff.mpr rd.nd
      have ltS := lt_of_le_nd sS ndS
      have memS : ∀ y, y ∈ S ↔ ∃ k, k < n ∧ B k = some y := fun y => (pS.mem_iff).trans (rd.mem y)
      have rz : r ≠ z := ne_of_none hr3 nz
      refine ⟨z, rfl, ⟨_, SqL.of upd_same⟩, for_it (walk_list (xs := nV S)) (fun i σ H' => ∃ a b c', σ = [some (.ref t), some (.ref v), some (.ref l), some (.ref d), some (.ref r), a, b, c'] ∧ Same H1 H' ∧ H' r = some (.lst (arV n (sub B (S.take i)))) ∧ H' z = some (.lst (nV S)))
        ⟨_, _, _, rfl, s2.put (s2.nw nz), Eq.trans (upd_ne rz) hr3, upd_same⟩ (fun i σ H' _ ⟨_, _, _, _, _, _, h⟩ => SqL.of h) ?_ ?_⟩
      · rintro i w1 σ H3 H4 hi ⟨a, b, c', rfl, s3, q1, q2⟩ ⟨rfl, e1⟩
        rw [nV_len] at hi
        have hg : S[i]? = some S[i] := List.getElem?_eq_getElem hi
        rw [nV_get hg] at e1
        cases e1
        obtain ⟨y, ey⟩ : ∃ y, y = S[i] := ⟨_, rfl⟩
        obtain ⟨k0, hk0, ek0⟩ := (memS y).mp (by rw [ey]; exact List.getElem_mem hi)
        obtain ⟨j, hj, ej, hu⟩ := rd.rise k0 y hk0 ek0
        have ynot : y ∉ S.take i := by
          rw [ey]
          intro hm
          have := (take_lt ltS hi (List.getElem_mem hi)).mpr hm
          omega
        obtain ⟨rest, hfree⟩ := free_first ch.par rd.arr hk0 ek0 hu ynot (fun z k' hk' e' hlt => (take_lt ltS hi ((memS z).mpr ⟨k', hk', e'⟩)).mp (by rw [← ey]; exact hlt))
        rw [← ey]
        obtain ⟨dx, b0, ls, h1, h2, _, h4, h5, h6⟩ := ht.mono (s1.trans s3)
        have hD : DGet H4 d (V.int (y : Int)) (some (.int (j : Int))) := by
          rw [← hk j y hj ej]
          exact DGet.k (k := Sum.inl (y : Int)) (s3 _ _ hd)
        refine ⟨_, rfl, t, dx, _, rfl, h1, trF_no (by decide +kernel) (by decide +kernel), _, rfl, _, rfl, d, _, rfl, hD, t, c, n, j, par, rfl, ht.mono (s1.trans s3), hj, fun H5 pl s5 npl hpl => ⟨pl, rfl, ⟨_, SqL.of hpl⟩, fun D nD => lc_it (walk_list (xs := nV (path par j))) (fun i' H' => Same H5 H' ∧ H' D = some (.lst (nV (((path par j).take i').filter fun p => decide (sub B (S.take i) p = none))))) ⟨(Same.refl H5).put nD, upd_same⟩ (fun i H' _ h => SqL.of (h.1 _ _ hpl)) ?_ ?_⟩⟩
        · rintro i' w2 H6 H7 hi' ⟨s6, hD6⟩ ⟨rfl, e2⟩
          rw [nV_len] at hi'
          have hg' : (path par j)[i']? = some (path par j)[i'] := List.getElem?_eq_getElem hi'
          rw [nV_get hg'] at e2
          cases e2
          obtain ⟨m, em⟩ : ∃ m, m = (path par j)[i'] := ⟨_, rfl⟩
          have hm : m < n := by
            have := ups_le ch.par m ((mem_path ch.par).mp (by rw [em]; exact List.getElem_mem hi'))
            omega
          rw [← em] at hg' ⊢
          refine ⟨rfl, _, rfl, _, rfl, _, _, _, _, rfl, rfl, SqL.of (s6 _ _ (s5 _ _ q1)), at_ar hm, rfl, _, rfl, ?_⟩
          rw [oV_non]
          by_cases hf : sub B (S.take i) m = none
          · refine ifT (decide_eq_true hf) ?_
            refine ⟨_, rfl, _, hD6, ?_, s6.put nD, ?_⟩
            · rw [nV_len]
              have h8 : (path par j).length ≤ n := by
                have nd' : (path par j).Nodup := (path_inc ch.par (p := j)).imp fun h => Nat.ne_of_lt h
                have sub' : ∀ k ∈ path par j, k ∈ List.range n := fun k hk => List.mem_range.mpr (by have := ups_le ch.par k ((mem_path ch.par).mp hk); omega)
                have := nd'.length_le_of_subset sub'
                rwa [List.length_range] at this
              have h9 := List.length_filter_le (fun p => decide (sub B (S.take i) p = none)) ((path par j).take i')
              rw [List.length_take] at h9
              exact sl20 (by omega)
            · rw [upd_same, List.take_succ, hg', List.filter_append, nV_app]
              simp [hf, nV_one]
          · refine ifF (decide_eq_false hf) ?_
            refine ⟨s6, ?_⟩
            rw [hD6, List.take_succ, hg', List.filter_append]
            simp [hf]
        · rintro H6 ⟨s6, hD6⟩
          rw [nV_len, List.take_length, hfree] at hD6
          have s56 := s5.trans s6
          refine ⟨_, rfl, _, rfl, _, rfl, _, _, _, _, rfl, rfl, SqL.of hD6, at_of (j := 0) rfl rfl, _, _, _, k0, rfl, rfl, s56 _ _ q1, by rw [arV_len]; exact ixN_nat hk0, ?_⟩
          refine ⟨_, _, _, rfl, (s3.trans s56).put nr, ?_, Eq.trans (upd_ne rz.symm) (s56 _ _ q2)⟩
          rw [upd_same]
          congr 2
          have e3 : (arV n (sub B (S.take i))).set k0 (V.int (y : Int)) = arV n (put1 (sub B (S.take i)) k0 (some y)) := arV_set (x := some y) hk0
          rw [e3, List.take_succ, hg, show (some S[i]).toList = [y] by rw [ey]; rfl]
          exact arV_congr fun k hk => sub_snoc rd.arr.inj hk0 ek0 ynot hk
      · rintro σ H3 ⟨a, b, c', rfl, s3, q1, q2⟩
        rw [nV_len, List.take_length] at q1
        have e4 : arV n (sub B S) = arV n B := arV_congr fun k hk => sub_all fun y e => (memS y).mpr ⟨k, hk, e⟩
        rw [e4] at q1
        refine ⟨_, rfl, r, _, rfl, SqL.of q1, fun u ob nu hob => ?_⟩
        exact q _ u ((s1.trans s3).up nu) ((s1.trans s3).nw nu) ⟨ob, hob, upd_same⟩
end
end K89
set_option Elab.async false
set_option linter.all false
set_option maxRecDepth 100000
set_option maxHeartbeats 1000000
namespace K89
open PySem PySem.Spec PyProof.Rows L2

def spLeaveB : Sp := fun vs H Q _ => ∃ (c v p : Addr) (n q x : Nat) (par : Nat → Nat) (A : Fn), vs = [.ref c, .ref v, .ref p] ∧ H c = some (.tup (chV n par)) ∧ AT H v n A ∧ H p = some (.tup [.int (x : Int)]) ∧ Ch n par ∧ Arr n par A ∧ q < n ∧ A q = some x ∧
  ∀ A' e H' u, Goes n par (put1 A q none) q A' e → Same H H' → H u = none → AT H' u n A' → Q (.ref u) H'
/-- one leaves -/
def spLeave : Sp := fun vs H Q _ => ∃ (c v : Addr) (n q x : Nat) (par : Nat → Nat) (A : Fn), vs = [.ref c, .ref v, .int (x : Int)] ∧ H c = some (.tup (chV n par)) ∧ AT H v n A ∧ Ch n par ∧ Arr n par A ∧ q < n ∧ A q = some x ∧
  ∀ A' e H' u, Goes n par (put1 A q none) q A' e → Same H H' → H u = none → AT H' u n A' → Q (.ref u) H'
def spJoin : Sp := fun vs H Q _ => ∃ (c v : Addr) (n p x : Nat) (par : Nat → Nat) (A B : Fn), vs = [.ref c, .ref v, .int (x : Int), .int (p : Int)] ∧ H c = some (.tup (chV n par)) ∧ AT H v n A ∧ Ch n par ∧ Left n par B x A p ∧
  ∀ H' u, Same H H' → H u = none → AT H' u n B → Q (.ref u) H'
def spReduced : Sp := fun vs H Q _ => ∃ (c v l : Addr) (n : Nat) (par : Nat → Nat) (A B : Fn) (xs : List Nat), vs = [.ref c, .ref v, .ref l] ∧ H c = some (.tup (chV n par)) ∧ AT H v n A ∧ H l = some (.lst (nV xs)) ∧ Ch n par ∧ Arr n par A ∧ xs.length ≤ 20 ∧ Red n par A B xs ∧
  ∀ H' u, Same H H' → H u = none → AT H' u n B → Q (.ref u) H'
section
variable {P : Program} {w : World} {K : PySem.W.Frag} {mg : Str → Option Value} {base : Heap} {CT CU CO : Addr}
abbrev s_leave : Stmt := top 32
abbrev N_leave : List Str := ["chart", "arrangement", "people", "seen", "person", "tree", "rows"]
theorem sc_leave : FnScope N_leave ["chart", "arrangement", "people"] (defScope s_leave) := ⟨rfl, rfl, rfl, by decide +kernel, rfl, by decide +kernel, by decide +kernel⟩
theorem k_leave (T : Txt K mg CT CU CO) (D : Dg K mg "leave" s_leave) (c_require_chart : Cal P w K mg base 3 "require_chart" ["chart"] spChart) (c_require_arrangement : Cal P w K mg base 4 "require_arrangement" ["chart", "arrangement"] spArr)
    (c_require_holder : Cal P w K mg base 3 "require_holder" ["arrangement", "person"] spHolder) (c_Tree : CalI P w K mg base 1 "Tree" CT ["self", "chart"] (spTree CT)) (c_leave_one : Cal P w K mg base 2 "leave_one" ["tree", "rows", "person"] (spLeaveOne CT)) :
    CalR P w K mg base 5 "leave" spLeave := by
  refine CalR.imp (sp := Star 2 spLeaveB) (D.star (ps := ["chart", "arrangement"]) (pv := "people") sc_leave (fun kV doc pm an cdv ct => StX.bind_star2 (B := fun l => bindArgs (PySem.W.fnOf "leave" "leave" (defArgs s_leave) (defBody s_leave) (defScope s_leave) .none kV doc pm an cdv ct) ⟨l, []⟩) (fun _ _ => rfl) (fun _ _ _ _ => rfl)) (fun f cdv A outer s H vs Q E hr h => ?_)) fun vs H Q E h => ?_
  · obtain ⟨c, v, p, n, q, x, par, A, rfl, hc, hv, hp, ch, ar, hq, eq, k⟩ := h
    refine ⟨_, (pss_cons (ps_expr (pe_cal c_require_chart (hr.mono (by decide)) (by rfl) (pa_cons (pv 0) pa_nil)))
  (pss_cons (ps_expr (pe_cal c_require_arrangement (hr.mono (by decide)) (by rfl) (pa_cons (pv 0) (pa_cons (pv 1) pa_nil))))
  (pss_cons (ps_set (i := 3) sc_leave.nd rfl (Or.inl rfl) (pe_lst pa_nil))
  (pss_cons (ps_for PassesOwn.never rfl (pi_tup (pv 2)) (pg_name (i := 4) sc_leave.nd rfl (Or.inl rfl))
    (pss_cons (ps_expr (pe_cal c_require_holder (hr.mono (by decide)) (by rfl) (pa_cons (pv 1) (pa_cons (pv 4) pa_nil))))
  (pss_cons (ps_if (pt_cmpR op_in_seq (pv 4) (pv 3) rfl)
    pss_never pss_nil)
  (pss_one (ps_expr (pe_bm PySem.F.plainAttrs_list PySem.F.slot_list_append PySem.F.type_list_append mt_append (pv 3) (pa_cons (pv 4) pa_nil)))))))
  (pss_cons (ps_set (i := 5) sc_leave.nd rfl (Or.inl rfl) (pe_mkc c_Tree (hr.mono (by decide)) (by rfl) (pa_cons (pv 0) pa_nil)))
  (pss_cons (ps_set (i := 6) sc_leave.nd rfl (Or.inl rfl) (pe_callTy call_list_of (by rfl) T.list (by decide +kernel) (pa_cons (pv 1) pa_nil)))
  (pss_cons (ps_for PassesOwn.never rfl (pi_tup (pv 2)) (pg_name (i := 4) sc_leave.nd rfl (Or.inl rfl))
    (pss_one (ps_expr (pe_cal c_leave_one (hr.mono (by decide)) (by rfl) (pa_cons (pv 5) (pa_cons (pv 6) (pa_cons (pv 4) pa_nil)))))))
  (pss_one (ps_ret (pe_callTy call_tupleF (by rfl) T.tuple (by decide +kernel) (pa_cons (pv 6) pa_nil))))))))))), ?_⟩
    have hle := ch.le
    refine ⟨_, rfl, c, n, par, rfl, hc, ch, fun H1 s1 => ?_⟩
    refine ⟨_, rfl, _, rfl, c, v, n, par, A, rfl, s1 _ _ hc, hv.mono s1, ch, ar, fun H2 s2 => ?_⟩
    have s2 := s1.trans s2
    refine ⟨Nat.zero_le _, fun l nl => ?_⟩
    refine ⟨_, rfl, p, rfl, ⟨_, SqT.of ((s2.up nl) _ _ hp)⟩, for_it (walk_tup (xs := [V.int (x : Int)])) (fun i σ H' => ∃ a, σ = [some (.ref c), some (.ref v), some (.ref p), some (.ref l), a, none, none] ∧ Same H H' ∧ (i = 0 → H' l = some (.lst (nV []))) )
      ⟨_, rfl, s2.up nl, fun _ => upd_same⟩ (fun i σ H' _ ⟨_, _, sm, _⟩ => SqT.of (sm _ _ hp)) ?_ ?_⟩
    · rintro i z σ H3 H4 hi ⟨a, rfl, sm, hl⟩ ⟨rfl, ez⟩
      obtain rfl : i = 0 := by simpa using hi
      cases ez
      have hl := hl rfl
      refine ⟨_, rfl, _, rfl, v, n, x, A, rfl, hv.mono sm, ⟨q, hq, eq⟩, ?_⟩
      refine ⟨_, rfl, _, rfl, l, _, rfl, .inl (SqL.of hl), rfl, fl_all fl_n, _, rfl, ?_⟩
      refine ifF (by rw [if_neg Bool.false_ne_true, in_n]; rfl) ?_
      refine ⟨_, rfl, .inl ⟨rfl, _, SqL.of hl⟩, _, rfl, l, _, _, rfl, rfl, hl, by decide, ?_⟩
      exact ⟨_, rfl, sm.put (s2.nw nl), fun h => absurd h (by decide)⟩
    · rintro σ H3 ⟨a, rfl, s3, _⟩
      refine ⟨_, rfl, fun t dx nt ndx nex => ⟨H3, t, c, dx, n, par, rfl, made nt ndx, nt, upd_same, s3 _ _ hc, ch, fun H4 s4 ht _ => ⟨rfl, ?_⟩⟩⟩
      have s4 := s3.trans s4
      refine ⟨_, rfl, v, _, rfl, .inr ((hv.mono s4).sq), fun r nr => ?_⟩
      refine ⟨_, rfl, p, rfl, ⟨_, SqT.of ((s4.up nr) _ _ hp)⟩, for_it (walk_tup (xs := [V.int (x : Int)])) (fun i σ H' => ∃ a, σ = [some (.ref c), some (.ref v), some (.ref p), some (.ref l), a, some (.ref t), some (.ref r)] ∧ Same H4 H' ∧ (i = 0 → H' r = some (.lst (arV n A))) ∧ (i = 1 → ∃ A' e, Goes n par (put1 A q none) q A' e ∧ H' r = some (.lst (arV n A'))))
        ⟨_, rfl, (Same.refl H4).up nr, fun _ => upd_same, fun h => absurd h (by decide)⟩ (fun i σ H' _ ⟨_, _, sm, _⟩ => SqT.of (sm _ _ (s4 _ _ hp))) ?_ ?_⟩
      · rintro i z σ H5 H6 hi ⟨a, rfl, sm, hr1, _⟩ ⟨rfl, ez⟩
        obtain rfl : i = 0 := by simpa using hi
        cases ez
        refine ⟨_, rfl, _, rfl, _, rfl, H4, t, c, r, n, q, x, par, A, rfl, sm, ht, nr, hr1 rfl, hq, ar.inj, eq, fun A' e H7 g s7 hr7 => ?_⟩
        exact ⟨_, rfl, s7, fun h => absurd h (by decide), fun _ => ⟨A', e, g, hr7⟩⟩
      · rintro σ H5 ⟨a, rfl, sm, _, hr1⟩
        obtain ⟨A', e, g, hr2⟩ := hr1 rfl
        refine ⟨_, rfl, r, _, rfl, SqL.of hr2, fun u ob nu hob => ?_⟩
        exact k A' e _ u g ((s4.trans sm).up nu) ((s4.trans sm).nw nu) ⟨ob, hob, upd_same⟩
  · obtain ⟨c, v, n, q, x, par, A, rfl, hc, hv, ch, ar, hq, eq, k⟩ := h
    refine ⟨[.ref c, .ref v], [.int (x : Int)], rfl, rfl, (by show 1 ≤ sizeLine; decide), fun p np => ⟨c, v, p, n, q, x, par, A, rfl, ?_, ?_, upd_same, ch, ar, hq, eq, fun A' e H' u g s' nu hu => ?_⟩⟩
    · rw [upd_ne (ne_of_none hc np)]; exact hc
    · exact hv.mono ((Same.refl H).put np)
    · have s1 : Same H (upd H p (.tup [V.int (x : Int)])) := (Same.refl H).put np
      exact k A' e H' u g (s1.trans s') (s1.nw nu) hu
abbrev s_join : Stmt := top 35
abbrev N_join : List Str := ["chart", "arrangement", "person", "post", "tree", "rows"]
theorem sc_join : FnScope N_join ["chart", "arrangement", "person", "post"] (defScope s_join) := ⟨rfl, rfl, rfl, by decide +kernel, rfl, by decide +kernel, by decide +kernel⟩
theorem k_join (T : Txt K mg CT CU CO) (D : Dg K mg "join" s_join) (c_require_chart : Cal P w K mg base 3 "require_chart" ["chart"] spChart) (c_require_arrangement : Cal P w K mg base 4 "require_arrangement" ["chart", "arrangement"] spArr)
    (c_is_person : Cal P w K mg base 2 "is_person" ["value"] spWhole) (c_is_whole : Cal P w K mg base 1 "is_whole" ["value"] spWhole) (c_Tree : CalI P w K mg base 1 "Tree" CT ["self", "chart"] (spTree CT))
    (c_is_open : Cal P w K mg base 1 "is_open" ["tree", "rows", "post"] (spOpen CT)) (c_join_one : Cal P w K mg base 2 "join_one" ["tree", "rows", "person", "post"] (spJoinOne CT)) :
    Cal P w K mg base 5 "join" ["chart", "arrangement", "person", "post"] spJoin := by
  refine D.ok sc_join (fun _ _ _ _ _ _ us hl => match us, hl with | [_, _, _, _], _ => rfl) (fun vs H Q E h => ?_) (fun f cdv A outer s H vs Q E hr h => ?_)
  · obtain ⟨c, v, n, p, x, par, A, B, rfl, _⟩ := h
    rfl
  · obtain ⟨c, v, n, p, x, par, A, B, rfl, hc, hv, ch, lf, k⟩ := h
    refine ⟨_, (pss_cons (ps_expr (pe_cal c_require_chart (hr.mono (by decide)) (by rfl) (pa_cons (pv 0) pa_nil)))
  (pss_cons (ps_expr (pe_cal c_require_arrangement (hr.mono (by decide)) (by rfl) (pa_cons (pv 0) (pa_cons (pv 1) pa_nil))))
  (pss_cons (ps_if (PW.pt (pw_or (pt_not (pt_val (pe_cal c_is_person (hr.mono (by decide)) (by rfl) (pa_cons (pv 2) pa_nil)))) (pw_or1 (pt_cmpR op_in_seq (pv 2) (pv 1) rfl))))
    pss_never pss_nil)
  (pss_cons (ps_set (i := 4) sc_join.nd rfl (Or.inl rfl) (pe_mkc c_Tree (hr.mono (by decide)) (by rfl) (pa_cons (pv 0) pa_nil)))
  (pss_cons (ps_if (PW.pt (pw_or (pt_not (pt_val (pe_cal c_is_whole (hr.mono (by decide)) (by rfl) (pa_cons (pv 3) pa_nil)))) (pw_or (pt_cmpR op_ge (pv 3) (pe_callB call_len_seq (by rfl) T.len (by decide +kernel) (pa_cons (pv 0) pa_nil)) (nomark _)) (pw_or1 (pt_not (pt_val (pe_cal c_is_open (hr.mono (by decide)) (by rfl) (pa_cons (pv 4) (pa_cons (pv 1) (pa_cons (pv 3) pa_nil))))))))))
    pss_never pss_nil)
  (pss_cons (ps_set (i := 5) sc_join.nd rfl (Or.inl rfl) (pe_callTy call_list_of (by rfl) T.list (by decide +kernel) (pa_cons (pv 1) pa_nil)))
  (pss_cons (ps_expr (pe_cal c_join_one (hr.mono (by decide)) (by rfl) (pa_cons (pv 4) (pa_cons (pv 5) (pa_cons (pv 2) (pa_cons (pv 3) pa_nil))))))
  (pss_one (ps_ret (pe_callTy call_tupleF (by rfl) T.tuple (by decide +kernel) (pa_cons (pv 5) pa_nil))))))))))), ?_⟩
    refine ⟨_, rfl, c, n, par, rfl, hc, ch, fun H1 s1 => ?_⟩
    refine ⟨_, rfl, _, rfl, c, v, n, par, A, rfl, s1 _ _ hc, hv.mono s1, ch, lf.arr, fun H2 s2 => ?_⟩
    have s2 := s1.trans s2
    refine ⟨_, rfl, _, rfl, true, rfl, ?_⟩
    refine iteF ?_
    refine ⟨_, rfl, _, rfl, v, _, rfl, .inr ((hv.mono s2).sq), rfl, fl_all fl_ar, _, rfl, ?_⟩
    refine ifF (by rw [if_neg Bool.false_ne_true]; exact nin_ar fun k hk e => ((lf.who x).mp ⟨k, hk, e⟩).2 rfl) ?_
    refine ⟨_, rfl, fun t dx nt ndx nex => ⟨H2, t, c, dx, n, par, rfl, made nt ndx, nt, upd_same, s2 _ _ hc, ch, fun H4 s4 ht _ => ⟨rfl, ?_⟩⟩⟩
    have s4 := s2.trans s4
    have hlt := lf.lt
    refine ⟨_, rfl, _, rfl, true, rfl, ?_⟩
    refine iteF ?_
    refine ⟨_, rfl, _, rfl, c, _, rfl, .inr (SqT.of (s4 _ _ hc)), _, _, rfl, rfl, _, rfl, ?_⟩
    rw [chV_len]
    refine ifF (decide_eq_false (by omega)) ?_
    refine ⟨_, rfl, _, rfl, _, rfl, t, c, v, n, p, par, A, rfl, ht, hv.mono s4, hlt, lf.nil, lf.opn, true, rfl, ?_⟩
    refine iteF ?_
    refine ⟨_, rfl, v, _, rfl, .inr ((hv.mono s4).sq), fun r nr => ?_⟩
    refine ⟨_, rfl, _, rfl, _, rfl, _, rfl, H4, t, c, r, n, p, x, par, A, B, rfl, (Same.refl H4).up nr, ht, nr, upd_same, lf, fun H5 s5 hr5 => ?_⟩
    have s5 := s4.trans s5
    refine ⟨_, rfl, r, _, rfl, SqL.of hr5, fun u ob nu hob => ?_⟩
    exact k _ u (s5.up nu) (s5.nw nu) ⟨ob, hob, upd_same⟩
abbrev s_reduced : Stmt := top 36
abbrev N_reduced : List Str := ["chart", "arrangement", "people"]
theorem sc_reduced : FnScope N_reduced ["chart", "arrangement", "people"] (defScope s_reduced) := ⟨rfl, rfl, rfl, by decide +kernel, rfl, by decide +kernel, by decide +kernel⟩
theorem k_reduced (T : Txt K mg CT CU CO) (D : Dg K mg "reduced" s_reduced) (c_require_chart : Cal P w K mg base 3 "require_chart" ["chart"] spChart) (c_require_arrangement : Cal P w K mg base 4 "require_arrangement" ["chart", "arrangement"] spArr)
    (c_require_people : Cal P w K mg base 3 "require_people" ["arrangement", "people"] spPeople) (c_Tree : CalI P w K mg base 1 "Tree" CT ["self", "chart"] (spTree CT)) (c_reduced_arrangement : Cal P w K mg base 2 "reduced_arrangement" ["tree", "arrangement", "people"] (spRed CT)) :
    Cal P w K mg base 5 "reduced" ["chart", "arrangement", "people"] spReduced := by
  refine D.ok sc_reduced (fun _ _ _ _ _ _ us hl => match us, hl with | [_, _, _], _ => rfl) (fun vs H Q E h => ?_) (fun f cdv A outer s H vs Q E hr h => ?_)
  · obtain ⟨c, v, l, n, par, A, B, xs, rfl, _⟩ := h
    rfl
  · obtain ⟨c, v, l, n, par, A, B, xs, rfl, hc, hv, hl, ch, ar, hlen, rd, k⟩ := h
    refine ⟨_, (pss_cons (ps_expr (pe_cal c_require_chart (hr.mono (by decide)) (by rfl) (pa_cons (pv 0) pa_nil)))
  (pss_cons (ps_expr (pe_cal c_require_arrangement (hr.mono (by decide)) (by rfl) (pa_cons (pv 0) (pa_cons (pv 1) pa_nil))))
  (pss_cons (ps_expr (pe_cal c_require_people (hr.mono (by decide)) (by rfl) (pa_cons (pv 1) (pa_cons (pv 2) pa_nil))))
  (pss_one (ps_ret (pe_cal c_reduced_arrangement (hr.mono (by decide)) (by rfl) (pa_cons (pe_mkc c_Tree (hr.mono (by decide)) (by rfl) (pa_cons (pv 0) pa_nil)) (pa_cons (pv 1) (pa_cons (pv 2) pa_nil))))))))), ?_⟩
    refine ⟨_, rfl, c, n, par, rfl, hc, ch, fun H1 s1 => ?_⟩
    refine ⟨_, rfl, _, rfl, c, v, n, par, A, rfl, s1 _ _ hc, hv.mono s1, ch, ar, fun H2 s2 => ?_⟩
    have s2 := s1.trans s2
    refine ⟨_, rfl, _, rfl, v, l, n, A, xs, rfl, hv.mono s2, s2 _ _ hl, hlen, rd.nd, fun x hx => ?_, fun H3 s3 => ?_⟩
    · obtain ⟨k0, hk0, e0⟩ := (rd.mem x).mp hx
      obtain ⟨j, hj, ej, _⟩ := rd.rise k0 x hk0 e0
      exact ⟨j, hj, ej⟩
    have s3 := s2.trans s3
    refine ⟨_, rfl, fun t dx nt ndx nex => ⟨H3, t, c, dx, n, par, rfl, made nt ndx, nt, upd_same, s3 _ _ hc, ch, fun H4 s4 ht _ => ⟨rfl, ?_⟩⟩⟩
    have s4 := s3.trans s4
    refine ⟨_, rfl, _, rfl, t, c, v, l, n, par, A, B, xs, rfl, ht, hv.mono s4, s4 _ _ hl, rd, fun H5 u s5 nu hu => ?_⟩
    exact k H5 u (s4.trans s5) (s4.nw nu) hu
end
end K89
set_option Elab.async false
set_option linter.all false
set_option maxRecDepth 100000
set_option maxHeartbeats 1000000
namespace K89
open PySem PySem.Spec PyProof.Rows L2 GenW

section
variable {X : Cx} {L : Addr} {q : Int} {st : Stmt} {rest : List Stmt}
def tFCut (t u : TF) : TF := fun D ys σ H => ∃ Mid : List Int → L2.St → Hp → Prop, t { D with nx := Mid } ys σ H ∧ ∀ ys' σ' H', Mid ys' σ' H' → u D ys' σ' H'
theorem fss_cut {t u : TF} (a : FS X L q st t) (b : FSs X L q rest u) : FSs X L q (st :: rest) (tFCut t u) := by
  refine ⟨fun A R n ys s₀ c fs K J gd lv s σ H D g hn k hI ht => ?_⟩
  obtain ⟨Mid, ht, hm⟩ := ht
  refine seg_execs_cons (a.run A R n ys s₀ c fs _ J gd lv s σ H { D with nx := Mid } g hn ⟨fun n' ys' s₀' s' f hn' hs => ?_⟩ hI ht)
  cases f with
  | next => obtain ⟨σ', H', I', r⟩ := hs; exact b.run A R n' ys' s₀' c fs K J gd lv s' σ' H' D g hn' k I' (hm _ _ _ r)
  | brk => exact k.ok n' ys' s₀' s' .brk hn' hs
  | cont => exact k.ok n' ys' s₀' s' .cont hn' hs
  | ret u => exact k.ok n' ys' s₀' s' (.ret u) hn' hs
end
def CalG (P : Program) (w : World) (K : PySem.W.Frag) (mg : Str → Option Value) (base : Heap) (k : Nat) (x : Str) (ps : List Str) (sp : SpF) : Prop :=
  ∃ f fd, mg x = some (.ref f) ∧ PySem.W.keepIn K (.ref f) = true ∧ Binds K fd ps [] ∧ GFnF P w K mg base k f fd ps sp
theorem Dg.gen {P : Program} {w : World} {K : PySem.W.Frag} {mg : Str → Option Value} {base : Heap} {k : Nat} {x : Str} {st : Stmt} {N ps : List Str} {sp : SpF} (D : Dg K mg x st) (S : GScope N ps (defScope st)) (hb : HB st x x ps) (len : ∀ vs H q Q, sp vs H q Q → vs.length = ps.length)
    (hbody : ∀ (f : Addr) (cdv : Value) (A : Around) (outer : List Env) (s : Shared) (H : Hp) (vs : List V) (q : Int) (Q : List Int → Hp → Prop) (pn : List (Addr × Obj)), Room k (A.deeper (envOfC x (defScope st) s.heap.objs.size f cdv)) → sp vs H q Q →
      ∃ t, (∀ L, FSs (gcxF P w K mg base N x (defScope st) f cdv A outer s H pn) L q (defBody st) t) ∧ t { nx := fun ys _ H' => Q ys H', rt := fun ys v H' => v = .non ∧ Q ys H' } [] (start N vs) H) : CalG P w K mg base (k + 1) x ps sp := by
  obtain ⟨f, fd, m, F⟩ := D
  have hbb := F.binds hb
  have kp := F.kp
  obtain ⟨oc, od, kV, doc, pm, an, cdv, ct, osl, rfl, lk, hcd⟩ := F.ex
  exact ⟨f, _, m, kp, hbb, gfnF_of lk hcd S len (hbody f cdv)⟩

def spChain : SpF := fun vs H q Q => ∃ (c v : Addr) (n k x : Nat) (par : Nat → Nat) (A : Fn), vs = [.ref c, .ref v, .int (x : Int)] ∧ H c = some (.tup (chV n par)) ∧ AT H v n A ∧ Ch n par ∧ Arr n par A ∧ k < n ∧ A k = some x ∧ q = (k : Int) ∧
  ∀ A' (e : Nat) H' ys, Goes n par (put1 A k none) k A' e → lastD q ys = (e : Int) → Same H H' → Q ys H'
def rListOf (K : PySem.W.Frag) : List V → Hp → VK → Prop := fun xs H Q => ∃ p ys, xs = [.ref p] ∧ (SqL K H p ys ∨ SqT K H p ys) ∧ ∀ l, H l = none → Q (.ref l) (upd H l (.lst ys))
theorem call_listK {X : Cx} : CallR X (.type "list") (rListOf X.K) := call_list_of
/-- between two hand-outs -/
def ChW (H0 : Hp) (c v t r : Addr) (n : Nat) (par : Nat → Nat) (A0 : Fn) (q0 x : Nat) (m : Nat) (ys : List Int) (σ : L2.St) (H' : Hp) : Prop :=
  Same H0 H' ∧ ∃ (p : Nat) (l : V) (B : Fn), σ = [some (.ref c), some (.ref v), some (.int (x : Int)), some (.ref t), some (.ref r), some (.int (p : Int)), some l] ∧ H' r = some (.lst (arV n B)) ∧ lastD (q0 : Int) ys = (p : Int) ∧ p < n ∧ ys.length ≤ p ∧
    ((l = .non ∧ Goes n par A0 q0 B p) ∨ (∃ k : Nat, l = .int (k : Int) ∧ k < n ∧ p < k ∧ B k = none ∧ Inj n B ∧ m = n - k ∧ (∃ y, B p = some y) ∧ ∀ A' e, Goes n par B k A' e → Goes n par A0 q0 A' e))
section
variable {P : Program} {w : World} {K : PySem.W.Frag} {mg : Str → Option Value} {base : Heap} {CT CU CO : Addr}
abbrev s_chain : Stmt := top 34
abbrev N_chain : List Str := ["chart", "arrangement", "person", "tree", "rows", "post", "lower"]
theorem sc_chain : GScope N_chain ["chart", "arrangement", "person"] (defScope s_chain) := ⟨rfl, rfl, rfl, by decide +kernel, rfl, by decide +kernel, by decide +kernel⟩
theorem k_chain (T : Txt K mg CT CU CO) (D : Dg K mg "chain" s_chain) (c_require_chart : Cal P w K mg base 3 "require_chart" ["chart"] spChart) (c_require_arrangement : Cal P w K mg base 4 "require_arrangement" ["chart", "arrangement"] spArr)
    (c_require_holder : Cal P w K mg base 3 "require_holder" ["arrangement", "person"] spHolder) (c_Tree : CalI P w K mg base 1 "Tree" CT ["self", "chart"] (spTree CT)) (c_move_up : Cal P w K mg base 1 "move_up" ["tree", "rows", "post"] (spMove CT)) :
    CalG P w K mg base 5 "chain" ["chart", "arrangement", "person"] spChain := by
  refine D.gen sc_chain (fun _ _ _ _ _ _ us hl => match us, hl with | [_, _, _], _ => rfl) (fun vs H q Q h => ?_) (fun f cdv A0 outer s H vs q Q pn hr h => ?_)
  · obtain ⟨c, v, n, k, x, par, A, rfl, _⟩ := h
    rfl
  · obtain ⟨c, v, n, k, x, par, A, rfl, hc, hv, ch, ar, hk, ek, rfl, kk⟩ := h
    refine ⟨_, fun L => (fss_cons (fs_ps  (fun _ _ h => h) (fun _ => (ps_expr (pe_cal c_require_chart (hr.mono (by decide)) (by rfl) (pa_cons (pv 0) pa_nil)))))
  (fss_cons (fs_ps  (fun _ _ h => h) (fun _ => (ps_expr (pe_cal c_require_arrangement (hr.mono (by decide)) (by rfl) (pa_cons (pv 0) (pa_cons (pv 1) pa_nil))))))
  (fss_cons (fs_ps  (fun _ _ h => h) (fun _ => (ps_expr (pe_cal c_require_holder (hr.mono (by decide)) (by rfl) (pa_cons (pv 1) (pa_cons (pv 2) pa_nil))))))
  (fss_cons (fs_ps  (fun _ _ h => h) (fun _ => (ps_set (i := 3) sc_chain.nd rfl (Or.inl rfl) (pe_mkc c_Tree (hr.mono (by decide)) (by rfl) (pa_cons (pv 0) pa_nil)))))
  (fss_cons (fs_ps (t := tAsg (tCB (rListOf K) (tCons (tVar 1) tNil)) (gName 4)) (fun _ _ h => h) (fun _ => (ps_set (i := 4) sc_chain.nd rfl (Or.inl rfl) (pe_callTy call_listK (by rfl) T.list (by decide +kernel) (pa_cons (pv 1) pa_nil)))))
  (fss_cons (fs_ps (t := tAsg (tBM K "list" (rIndex K) (tVar 4) (tCons (tVar 2) tNil)) (gName 5)) (fun _ _ h => h) (fun _ => (ps_set (i := 5) sc_chain.nd rfl (Or.inl rfl) (pe_bm PySem.F.plainAttrs_list PySem.F.slot_list_index PySem.F.type_list_index mt_index (pv 4) (pa_cons (pv 2) pa_nil)))))
  (fss_cons (fs_ps  (fun _ _ h => h) (fun _ => (ps_asg pe_non (pg_sub (pv 4) (pv 5) set_list))))
  (fss_cut (fs_ps  (fun _ _ h => h) (fun _ => (ps_set (i := 6) sc_chain.nd rfl (Or.inl rfl) (pe_cal c_move_up (hr.mono (by decide)) (by rfl) (pa_cons (pv 3) (pa_cons (pv 4) (pa_cons (pv 5) pa_nil)))))))
  (fss_cons (fs_while (fun _ _ h => h) (fun _ => (pt_cmpR op_notN (pv 6) pe_non (nomark _)))
    (fss_cons (fs_yield (te := tTup (tCons (tOp (rIxL K) (tVar 4) (tVar 5)) (tCons (tVar 6) (tCons (tVar 5) tNil)))) (fun _ _ h => h) (fun _ => (pe_tup (pa_cons (pe_ix ix_list (pv 4) (pv 5) (fun _ _ => rfl)) (pa_cons (pv 6) (pa_cons (pv 5) pa_nil))))))
  (fss_cons (fs_ps  (fun _ _ h => h) (fun _ => (ps_set (i := 5) sc_chain.nd rfl (Or.inl rfl) (pv 6))))
  (fss_cons (fs_ps  (fun _ _ h => h) (fun _ => (ps_set (i := 6) sc_chain.nd rfl (Or.inl rfl) (pe_cal c_move_up (hr.mono (by decide)) (by rfl) (pa_cons (pv 3) (pa_cons (pv 4) (pa_cons (pv 5) pa_nil)))))))
  fss_nil))))
  fss_nil))))))))), ?_⟩
    have hle := ch.le
    refine ⟨_, rfl, c, n, par, rfl, hc, ch, fun H1 s1 => ?_⟩
    refine ⟨_, rfl, _, rfl, c, v, n, par, A, rfl, s1 _ _ hc, hv.mono s1, ch, ar, fun H2 s2 => ?_⟩
    have s2 := s1.trans s2
    refine ⟨_, rfl, _, rfl, v, n, x, A, rfl, hv.mono s2, ⟨k, hk, ek⟩, ?_⟩
    refine ⟨_, rfl, fun t dx nt ndx nex => ⟨H2, t, c, dx, n, par, rfl, made nt ndx, nt, upd_same, s2 _ _ hc, ch, fun H4 s4 ht _ => ⟨rfl, ?_⟩⟩⟩
    have s4 := s2.trans s4
    refine ⟨_, rfl, v, _, rfl, .inr ((hv.mono s4).sq), fun r nr => ?_⟩
    refine ⟨_, rfl, .inl ⟨rfl, _, SqL.of upd_same⟩, _, rfl, r, _, _, k, _, rfl, rfl, SqL.of upd_same, rfl, fl_all fl_ar, arV_get hk, ?_, ar_first ar.inj hk ek, ?_⟩
    · rw [ek]
      show ((x : Int) == (x : Int)) = true
      simp
    refine ⟨_, rfl, _, rfl, _, _, _, k, rfl, rfl, upd_same, by rw [arV_len]; exact ixN_nat hk, ?_⟩
    have e1 : (arV n A).set k V.non = arV n (put1 A k none) := arV_set (x := none) hk
    rw [e1, upd_upd]
    have inj1 : Inj n (put1 A k none) := inj_put_none ar.inj
    refine ⟨fun ys σ H' => ∃ m, ChW H4 c v t r n par (put1 A k none) k x m ys σ H', ⟨_, rfl, _, rfl, _, rfl, H4, t, c, r, n, k, par, put1 A k none, rfl, (Same.refl H4).up nr, ht, nr, upd_same, hk, inj1, fun H5 hk0 s5 hr5 => ?_, fun k1 x1 H5 m1 m2 m3 s5 hr5 => ?_⟩, ?_⟩
    · exact ⟨0, s5, k, .non, _, rfl, hr5, rfl, hk, Nat.zero_le _, .inl ⟨rfl, .stop _ _ hk0⟩⟩
    · have hk1 := mem_kids.mp m1
      have := ch.par k1 hk1.2.1
      exact ⟨n - k1, s5, k, _, _, rfl, hr5, rfl, hk, Nat.zero_le _, .inr ⟨k1, rfl, hk1.1, by omega, put1_same, inj_move ch.par inj1 put1_same m1 m2, rfl, ⟨x1, by rw [put1_ne (by omega), put1_same]⟩, fun A' e g => .step _ _ k1 x1 _ _ m1 m2 m3 g⟩⟩
    · rintro ys1 σ1 H5 ⟨m0, w0⟩
      refine ⟨ChW H4 c v t r n par (put1 A k none) k x, ⟨m0, w0⟩, ?_⟩
      rintro m ys σ H6 ⟨s6, p, l, B, rfl, hr6, hlast, hp, hlen, hl⟩
      refine ⟨_, rfl, rfl, _, rfl, ?_⟩
      rcases hl with ⟨rfl, g⟩ | ⟨k1, rfl, hk1, hpk, hB, injB, rfl, ⟨y, ey⟩, hg⟩
      · refine ifF nn_non ?_
        exact kk _ _ _ _ g hlast (s4.trans s6)
      · refine ifT nn_int ?_
        refine ⟨fun ys' σ' H' => ∃ m', m' < n - k1 ∧ ChW H4 c v t r n par (put1 A k none) k x m' ys' σ' H', fun _ _ _ z => z, ?_⟩
        refine ⟨sl20 (by omega), _, rfl, _, rfl, _, _, _, _, rfl, rfl, SqL.of hr6, at_ar hp, _, rfl, _, rfl, by show 3 ≤ sizeLine; decide, fun u nu => ⟨u, (y : Int), (k1 : Int), rfl, ?_, ?_⟩⟩
        · rw [upd_same, ey, hlast]
          rfl
        have hr7 : upd H6 u (.tup [oV (B p), V.int (k1 : Int), V.int (p : Int)]) r = some (.lst (arV n B)) := by rw [upd_ne (ne_of_none hr6 nu)]; exact hr6
        refine ⟨_, rfl, _, rfl, _, rfl, _, rfl, H4, t, c, r, n, k1, par, B, rfl, s6.up nu, ht, nr, hr7, hk1, injB, fun H7 hk0 s7 hr8 => ?_, fun k2 x2 H7 m1 m2 m3 s7 hr8 => ?_⟩
        · exact ⟨0, by omega, s7, k1, .non, _, rfl, hr8, lastD_snoc, hk1, by simp; omega, .inl ⟨rfl, hg _ _ (.stop _ _ hk0)⟩⟩
        · have hk2 := mem_kids.mp m1
          have := ch.par k2 hk2.2.1
          exact ⟨n - k2, by omega, s7, k1, _, _, rfl, hr8, lastD_snoc, hk1, by simp; omega, .inr ⟨k2, rfl, hk2.1, by omega, put1_same, inj_move ch.par injB hB m1 m2, rfl, ⟨x2, by rw [put1_ne (by omega), put1_same]⟩, fun A' e g => hg _ _ (.step _ _ k2 x2 _ _ m1 m2 m3 g)⟩⟩
end
end K89
set_option Elab.async false
set_option linter.all false
set_option maxRecDepth 100000
set_option maxHeartbeats 1000000
namespace K89
open PySem PySem.Spec PyProof.Rows L2

def spEmptied : Sp := fun vs H Q _ => ∃ (c v : Addr) (n k x : Nat) (par : Nat → Nat) (A : Fn), vs = [.ref c, .ref v, .int (x : Int)] ∧ H c = some (.tup (chV n par)) ∧ AT H v n A ∧ Ch n par ∧ Arr n par A ∧ k < n ∧ A k = some x ∧
  ∀ A' (e : Nat) H', Goes n par (put1 A k none) k A' e → Same H H' → Q (.int (e : Int)) H'
section
variable {P : Program} {w : World} {K : PySem.W.Frag} {mg : Str → Option Value} {base : Heap} {CT CU CO : Addr}
abbrev s__law_emptied : Stmt := top 57
abbrev N__law_emptied : List Str := ["_law_above", "_law_holders", "_law_leaver", "_law_last", "_law_mover", "_law_old", "_law_new"]
theorem sc__law_emptied : FnScope N__law_emptied ["_law_above", "_law_holders", "_law_leaver"] (defScope s__law_emptied) := ⟨rfl, rfl, rfl, by decide +kernel, rfl, by decide +kernel, by decide +kernel⟩
theorem k__law_emptied (T : Txt K mg CT CU CO) (D : Dg K mg "_law_emptied" s__law_emptied) (c_chain : CalG P w K mg base 5 "chain" ["chart", "arrangement", "person"] spChain) :
    Cal P w K mg base 7 "_law_emptied" ["_law_above", "_law_holders", "_law_leaver"] spEmptied := by
  refine D.ok sc__law_emptied (fun _ _ _ _ _ _ us hl => match us, hl with | [_, _, _], _ => rfl) (fun vs H Q E h => ?_) (fun f cdv A outer s H vs Q E hr h => ?_)
  · obtain ⟨c, v, n, k, x, par, A, rfl, _⟩ := h
    rfl
  · obtain ⟨c, v, n, k, x, par, A, rfl, hc, hv, ch, ar, hk, ek, kk⟩ := h
    obtain ⟨ob, hob, ho⟩ := id hv
    obtain ⟨f1, fd1, m1, k1, b1, F1⟩ := c_chain
    refine ⟨_, (pss_cons (ps_set (i := 3) sc__law_emptied.nd rfl (Or.inl rfl) (pe_bmF PySem.F.slot_tuple_index PySem.F.type_tuple_index mt_indexT (pv 1) (pa_cons (pv 2) pa_nil)))
  (pss_cons (ps_forGen (il := 3) F1 (hr.mono (by decide)) rfl rfl rfl rfl rfl rfl rfl rfl rfl (by rfl) m1 k1 b1 (pa_cons (pv 0) (pa_cons (pv 1) (pa_cons (pv 2) pa_nil))))
  (pss_one (ps_ret (pv 3))))), ?_⟩
    refine ⟨_, rfl, ⟨v, ob, _, rfl, ho, hob⟩, _, rfl, v, _, _, k, _, rfl, rfl, hv.sq, rfl, fl_all fl_ar, arV_get hk, ?_, ar_first ar.inj hk ek, ?_⟩
    · rw [ek]
      show ((x : Int) == (x : Int)) = true
      simp
    refine ⟨(k : Int), rfl, _, rfl, _, rfl, _, rfl, c, v, n, k, x, par, A, rfl, hc, hv, ch, ar, hk, ek, rfl, fun A' e H' ys g hl s' => ?_⟩
    refine ⟨_, rfl, ?_⟩
    rw [hl]
    exact kk A' e H' g s'
end
end K89
set_option Elab.async false
set_option linter.all false
set_option maxRecDepth 100000
set_option maxHeartbeats 1000000
namespace K89
open PySem PySem.Spec PyProof.Rows L2

def spUnplaced (CT CU : Addr) : Sp := fun vs H Q _ => ∃ (H0 : Hp) (u c dx : Addr) (n : Nat) (par : Nat → Nat), vs = [.ref u, .ref c] ∧ Same H0 H ∧ H0 u = none ∧ H u = some (.ins CU dx []) ∧ H0 c = some (.tup (chV n par)) ∧ Ch n par ∧
  ∀ H1 H' t wl nl, Same H0 H1 → UnAt CT CU H1 H' u t wl nl c n par n [0] → Q .non H'
def spWays (CT CU : Addr) : Sp := fun vs H Q _ => ∃ (H1 : Hp) (u t wl nl c : Addr) (n m p : Nat) (par : Nat → Nat) (nx : List Nat), vs = [.ref u, .int (p : Int)] ∧ UnAt CT CU H1 H u t wl nl c n par (m + 1) nx ∧ Fr n par (m + 1) nx ∧ p ∈ nx ∧ Q (.int (cnt n par m (nextOf n par nx p) : Int)) H
def spPlace (CT CU : Addr) : Sp := fun vs H Q _ => ∃ (H1 : Hp) (u t wl nl c : Addr) (n m p : Nat) (par : Nat → Nat) (nx : List Nat), vs = [.ref u, .int (p : Int)] ∧ UnAt CT CU H1 H u t wl nl c n par (m + 1) nx ∧ Fr n par (m + 1) nx ∧ p ∈ nx ∧
  ∀ H' nl', UnAt CT CU H1 H' u t wl nl' c n par m (nextOf n par nx p) → H1 nl' = none → Q .non H'
section
variable {P : Program} {w : World} {K : PySem.W.Frag} {mg : Str → Option Value} {base : Heap} {CT CU CO : Addr}
abbrev s_Unplaced_init : Stmt := inClass (top 40) 0
abbrev N_Unplaced_init : List Str := ["self", "chart", "product", "post", "size"]
theorem sc_Unplaced_init : FnScope N_Unplaced_init ["self", "chart"] (defScope s_Unplaced_init) := ⟨rfl, rfl, rfl, by decide +kernel, rfl, by decide +kernel, by decide +kernel⟩
theorem k_Unplaced (T : Txt K mg CT CU CO) (D : Di K mg "Unplaced" CU "Unplaced.__init__" s_Unplaced_init) (c_Tree : CalI P w K mg base 1 "Tree" CT ["self", "chart"] (spTree CT)) (cm_sizes : CalM P w K mg base 1 CT "sizes" ["self"] (spSizes CT)) :
    CalI P w K mg base 3 "Unplaced" CU ["self", "chart"] (spUnplaced CT CU) := by
  refine D.ok sc_Unplaced_init (fun _ _ _ _ _ _ us hl => match us, hl with | [_, _], _ => rfl) (fun vs H Q E h => ?_) (fun f cdv A outer s H vs Q E hr h => ?_)
  · obtain ⟨H0, u, c, dx, n, par, rfl, _⟩ := h
    rfl
  · obtain ⟨H0, u, c, dx, n, par, rfl, s0, nu, hu, hc, ch, q⟩ := h
    refine ⟨_, (pss_cons (ps_fld (pv 0) (pe_mkc c_Tree (hr.mono (by decide)) (by rfl) (pa_cons (pv 1) pa_nil)) rfl)
  (pss_cons (ps_fld (pv 0) (pe_mth0 cm_sizes (hr.mono (by decide)) (pe_fld (pv 0) rfl)) rfl)
  (pss_cons (ps_fld (pv 0) (pe_callB call_len_seq (by rfl) T.len (by decide +kernel) (pa_cons (pv 1) pa_nil)) rfl)
  (pss_cons (ps_fld (pv 0) (pe_lst (pa_cons pe_int pa_nil)) rfl)
  (pss_cons (ps_fld (pv 0) pe_int rfl)
  (pss_cons (ps_set (i := 2) sc_Unplaced_init.nd rfl (Or.inl rfl) pe_int)
  (pss_cons (ps_for PassesOwn.never rfl (pi_enum (by rfl) T.enumerate (pa_cons (pe_fld (pv 0) rfl) pa_nil)) (pg_tup (by rfl) (pgs_cons (pg_name (i := 3) sc_Unplaced_init.nd rfl (Or.inl rfl)) (pgs_cons (pg_name (i := 4) sc_Unplaced_init.nd rfl (Or.inl rfl)) pgs_nil)))
    (pss_cons (ps_fldaug (pv 0) (pe_op op_add (pv 3) pe_int) iop_mul)
  (pss_one (ps_aug (i := 2) sc_Unplaced_init.nd rfl (Or.inl rfl) (pv 4) iop_mul))))
  (pss_one (ps_fldaug (pv 0) (pv 2) iop_fdivW))))))))), ?_⟩
    have hle := ch.le
    have huc : u ≠ c := (ne_of_none hc nu).symm
    refine ⟨_, rfl, fun t dxt nt ndxt nex => ⟨H, t, c, dxt, n, par, rfl, made nt ndxt, nt, upd_same, s0 _ _ hc, ch, fun H1 s1 _ htd => ⟨rfl, ?_⟩⟩⟩
    have ht1 := htd u (by rw [hu]; simp) huc
    have s01 : Same H0 (drop1 H1 u) := to_drop (s0.trans s1) nu
    refine ⟨_, rfl, u, CU, dx, _, rfl, s1 _ _ hu, T.clU, T.uTree, by show 0 < 1000; decide, ?_⟩
    have sd1 : Same (drop1 H1 u) (upd H1 u (.ins CU dx (unF1 t))) := drop_same.put drop_at
    obtain ⟨dxt', b, ls, g1, g2, g3⟩ := id ht1
    refine ⟨_, rfl, u, CU, dx, _, _, rfl, upd_same, T.clU, T.uTree, lk_eq rfl, t, dxt', _, rfl, sd1 _ _ g1, trF_no (by decide +kernel) (by decide +kernel), t, c, n, par, rfl, ht1.mono sd1, fun H2 wl s2 nwl hwl => ?_⟩
    have hu2 : H2 u = some (.ins CU dx (unF1 t)) := s2 _ _ upd_same
    have sd2 : Same (drop1 H1 u) (drop1 H2 u) := to_drop (sd1.trans s2) drop_at
    have uwl : u ≠ wl := ne_of_none upd_same nwl
    have hwl2 : drop1 H2 u wl = some (.lst (nV ((List.range n).map (wt n par)))) := (drop_ne uwl.symm).trans hwl
    refine ⟨_, rfl, u, CU, dx, _, rfl, hu2, T.clU, T.uWeights, by show 1 < 1000; decide, ?_⟩
    rw [un_p2]
    have sd3 : Same (drop1 H2 u) (upd H2 u (.ins CU dx (unF2 t wl))) := drop_same.put drop_at
    refine ⟨_, rfl, c, _, rfl, .inr (SqT.of (sd3 _ _ (sd2 _ _ (s01 _ _ hc)))), _, rfl, u, CU, dx, _, rfl, upd_same, T.clU, T.uLeft, by show 2 < 1000; decide, ?_⟩
    rw [chV_len, upd_upd, un_p3]
    refine ⟨by show 1 ≤ sizeLine; decide, fun nl nnl => ?_⟩
    have unl : u ≠ nl := ne_of_none upd_same nnl
    have hu4 : upd (upd H2 u (.ins CU dx (unF3 t wl n))) nl (.lst [V.int 0]) u = some (.ins CU dx (unF3 t wl n)) := (upd_ne unl).trans upd_same
    refine ⟨_, rfl, u, CU, dx, _, rfl, hu4, T.clU, T.uNext, by show 3 < 1000; decide, ?_⟩
    rw [un_p4]
    refine ⟨_, rfl, u, CU, dx, _, rfl, upd_same, T.clU, T.uWays, by show 4 < 1000; decide, ?_⟩
    rw [upd_upd, un_p5]
    obtain ⟨H5, e5⟩ : ∃ H5, H5 = upd (upd (upd H2 u (.ins CU dx (unF3 t wl n))) nl (.lst [V.int 0])) u (.ins CU dx (unF t wl n nl 1)) := ⟨_, rfl⟩
    have hnl5 : H5 nl = some (.lst (nV [0])) := by rw [e5, upd_ne unl.symm, upd_same]; rfl
    have hu5 : H5 u = some (.ins CU dx (unF t wl n nl (fact 0))) := by rw [e5, upd_same]; rfl
    have nnl2 : drop1 H2 u nl = none := by
      rw [drop_ne unl.symm]
      rwa [upd_ne unl.symm] at nnl
    have sd5 : Same (drop1 H2 u) (drop1 H5 u) := by
      rw [e5]
      exact to_drop (((drop_same.put drop_at).put nnl2).put drop_at) drop_at
    rw [← e5]
    clear e5
    have hwl5 : drop1 H5 u wl = some (.lst (nV ((List.range n).map (wt n par)))) := sd5 _ _ hwl2
    have hwl6 := drop_same _ _ hwl5
    refine ⟨_, rfl, u, CU, dx, _, _, rfl, hu5, T.clU, T.uWeights, un_gw, wl, _, rfl, SqL.of hwl6, for_it walk_enum (fun i σ H' => ∃ a b, σ = [some (.ref u), some (.ref c), some (.int ((((List.range n).map (wt n par)).take i).prod : Int)), a, b] ∧ Same (drop1 H5 u) H' ∧ H' u = some (.ins CU dx (unF t wl n nl (fact i : Int))))
      ⟨_, _, rfl, drop_same, hu5⟩ (fun i σ H' _ ⟨_, _, _, sm, _⟩ => SqL.of (sm _ _ hwl5)) ?_ ?_⟩
    · rintro i z σ H6 H7 hi ⟨a, b, rfl, sm, hu6⟩ hy
      obtain ⟨t2, y1, rfl, nT, rfl, e2⟩ := yen hy
      rw [nV_len, List.length_map, List.length_range] at hi
      have hg : ((List.range n).map (wt n par))[i]? = some (wt n par i) := by rw [List.getElem?_map, List.getElem?_range hi]; rfl
      rw [nV_get hg] at e2
      cases e2
      have ut2 : u ≠ t2 := ne_of_none hu6 nT
      refine ⟨_, _, rfl, SqT.of upd_same, rfl, _, _, rfl, _, _, rfl, rfl, ?_⟩
      refine ⟨_, rfl, u, CU, dx, _, _, rfl, (upd_ne ut2).trans hu6, T.clU, T.uWays, un_gy, _, rfl, _, _, rfl, rfl, _, _, rfl, rfl, ?_, _, _, (upd_ne ut2).trans hu6, by show 5 < 1000; decide, ?_⟩
      · right
        constructor <;> omega
      have hwi := wt_head_le ch.par ch.pos i hi
      refine ⟨_, rfl, _, rfl, _, _, rfl, rfl, ?_, ?_⟩
      · right
        constructor <;> omega
      rw [un_ways]
      refine ⟨some (.int (i : Int)), some (.int (wt n par i : Int)), ?_, (sm.up nT).put drop_at, ?_⟩
      · rw [List.take_succ, hg]
        show _ = [_, _, some (V.int ((((List.range n).map (wt n par)).take i ++ [wt n par i]).prod : Int)), _, _]
        rw [List.prod_append, List.prod_cons, List.prod_nil, Nat.mul_one, Int.natCast_mul]
        rfl
      · rw [upd_same]
        congr 4
        show (fact i : Int) * ((i : Int) + 1) = ((fact (i + 1) : Nat) : Int)
        rw [fact, Int.natCast_mul, Int.mul_comm]
        rfl
    · rintro σ H6 ⟨a, b, rfl, sm, hu6⟩
      rw [nV_len, List.length_map, List.length_range] at hu6
      have hlp : ((List.range n).map (wt n par)).take (nV ((List.range n).map (wt n par))).length = (List.range n).map (wt n par) := by rw [nV_len, List.take_length]
      rw [hlp]
      have ppos : 0 < ((List.range n).map (wt n par)).prod := prod_pos_of fun a ha => by
        obtain ⟨k, _, rfl⟩ := List.mem_map.mp ha
        exact wt_pos' k
      have ple := prod_le (n := n) (par := par) ch.par ch.pos
      have fle := fact_le hle
      refine ⟨_, rfl, u, CU, dx, _, _, rfl, hu6, T.clU, T.uWays, un_gy, _, rfl, _, _, rfl, rfl, ?_, _, _, hu6, by show 5 < 1000; decide, ?_⟩
      · refine wide_div (b := 64) (by omega) ?_ (by decide) (by decide)
        rw [Int.natAbs_natCast]
        omega
      rw [un_ways]
      refine q (drop1 H5 u) _ t wl nl (s01.trans (sd2.trans sd5)) ⟨Nat.le_refl n, sm.put drop_at, drop_at, ht1.mono (sd2.trans sd5), hwl5, ⟨dx, ?_⟩, ?_⟩
      · rw [upd_same]
        congr 4
        rw [← cnt_start ch.par ch.pos]
        rfl
      · exact (upd_ne unl.symm).trans (sm _ _ ((drop_ne unl.symm).trans hnl5))
end
end K89
set_option Elab.async false
set_option linter.all false
set_option maxRecDepth 100000
set_option maxHeartbeats 1000000
namespace K89
open PySem PySem.Spec PyProof.Rows L2

section
variable {P : Program} {w : World} {K : PySem.W.Frag} {mg : Str → Option Value} {base : Heap} {CT CU CO : Addr}
abbrev s_Unplaced_ways_after : Stmt := inClass (top 40) 1
abbrev N_Unplaced_ways_after : List Str := ["self", "post"]
theorem sc_Unplaced_ways_after : FnScope N_Unplaced_ways_after ["self", "post"] (defScope s_Unplaced_ways_after) := ⟨rfl, rfl, rfl, by decide +kernel, rfl, by decide +kernel, by decide +kernel⟩
theorem k_Unplaced_ways_after (T : Txt K mg CT CU CO) (D : Dm K CU "ways_after" "Unplaced.ways_after" s_Unplaced_ways_after) : CalM P w K mg base 1 CU "ways_after" ["self", "post"] (spWays CT CU) := by
  refine D.ok sc_Unplaced_ways_after (fun _ _ _ _ _ _ us hl => match us, hl with | [_, _], _ => rfl) (fun vs H Q E h => ?_) (fun f cdv A outer s H vs Q E hr h => ?_)
  · obtain ⟨H1, u, t, wl, nl, c, n, m, p, par, nx, rfl, _⟩ := h
    rfl
  · obtain ⟨H1, u, t, wl, nl, c, n, m, p, par, nx, rfl, a, fr, hm, q⟩ := h
    refine ⟨_, (pss_one (ps_ret (pe_op op_fdiv (pe_op op_mul (pe_fld (pv 0) rfl) (pe_ix ix_list (pe_fld (pv 0) rfl) (pv 1) (fun _ _ => rfl))) (pe_fld (pv 0) rfl)))), ?_⟩
    have ch := a.tr.ch
    have hpn := fr.lt p hm
    obtain ⟨dx, hu⟩ := a.at_
    have fle := fact_le ch.le
    have cle := cnt_le ch.par fr
    have hwp := wt_head_le ch.par ch.pos p hpn
    have hle := ch.le
    have hmn := a.mle
    refine ⟨_, rfl, u, CU, dx, _, _, rfl, hu, T.clU, T.uWays, un_gy, _, rfl, u, CU, dx, _, _, rfl, hu, T.clU, T.uWeights, un_gw, _, rfl, _, _, _, _, rfl, rfl, SqL.of (a.sm _ _ a.wts), atI_nat (nV_get (by rw [List.getElem?_map, List.getElem?_range hpn]; rfl)), _, _, rfl, rfl, ?_, _, rfl, u, CU, dx, _, _, rfl, hu, T.clU, T.uLeft, un_gl, _, _, rfl, rfl, ⟨by omega, by omega⟩, ?_⟩
    · right
      constructor <;> omega
    · show Q (.int ((cnt n par (m + 1) nx : Int) * (wt n par p : Int) / ((m + 1 : Nat) : Int))) H
      have e : (cnt n par (m + 1) nx : Int) * (wt n par p : Int) = ((m + 1 : Nat) : Int) * (cnt n par m (nextOf n par nx p) : Int) := by
        rw [← Int.natCast_mul, ← Int.natCast_mul, cnt_after ch.par fr hm]
      rw [e, Int.mul_ediv_cancel_left _ (by omega)]
      exact q
abbrev s_Unplaced_place : Stmt := inClass (top 40) 2
abbrev N_Unplaced_place : List Str := ["self", "post", "others", "other"]
theorem sc_Unplaced_place : FnScope N_Unplaced_place ["self", "post"] (defScope s_Unplaced_place) := ⟨rfl, rfl, rfl, by decide +kernel, rfl, by decide +kernel, by decide +kernel⟩
theorem k_Unplaced_place (T : Txt K mg CT CU CO) (D : Dm K CU "place" "Unplaced.place" s_Unplaced_place) (cm_ways_after : CalM P w K mg base 1 CU "ways_after" ["self", "post"] (spWays CT CU)) : CalM P w K mg base 2 CU "place" ["self", "post"] (spPlace CT CU) := by
  refine D.ok sc_Unplaced_place (fun _ _ _ _ _ _ us hl => match us, hl with | [_, _], _ => rfl) (fun vs H Q E h => ?_) (fun f cdv A outer s H vs Q E hr h => ?_)
  · obtain ⟨H1, u, t, wl, nl, c, n, m, p, par, nx, rfl, _⟩ := h
    rfl
  · obtain ⟨H1, u, t, wl, nl, c, n, m, p, par, nx, rfl, a, fr, hm, q⟩ := h
    refine ⟨_, (pss_cons (ps_fld (pv 0) (pe_mth cm_ways_after (hr.mono (by decide)) (pv 0) (pa_cons (pv 1) pa_nil)) rfl)
  (pss_cons (ps_fldaug (pv 0) pe_int in_sub)
  (pss_cons (ps_setLc (i := 2) (own := [("other", 3)]) (g := gName 3) (by rfl) sc_Unplaced_place.nd rfl rfl (sw_true rfl rfl rfl (by decide +kernel)) (pi_list (pe_fld (pv 0) rfl)) (blkOk_by (N := N_Unplaced_place) (sc := defScope s_Unplaced_place) (by decide +kernel)) (fun _ _ _ _ _ => (pg_name (i := 3) sc_Unplaced_place.nd rfl (Or.inl rfl))) (fun _ _ _ _ _ => (pts_one (pt_cmpR op_ne (pv 3) (pv 1) (nomark _)))) (fun _ _ _ _ _ => (pv 3)))
  (pss_one (ps_fld (pv 0) (pe_callB cr_sortedI (by rfl) T.sorted (by decide +kernel) (pa_cons (pe_op op_cat (pv 2) (pe_ix ix_list (pe_fld (pe_fld (pv 0) rfl) rfl) (pv 1) (fun _ _ => rfl))) pa_nil)) rfl))))), ?_⟩
    have ch := a.tr.ch
    have hpn := fr.lt p hm
    obtain ⟨dx, hu⟩ := a.at_
    refine ⟨_, rfl, u, dx, _, rfl, hu, un_no (by decide +kernel) (by decide +kernel) (by decide +kernel) (by decide +kernel) (by decide +kernel), _, rfl, H1, u, t, wl, nl, c, n, m, p, par, nx, rfl, a, fr, hm, ?_⟩
    refine ⟨_, rfl, u, CU, dx, _, rfl, hu, T.clU, T.uWays, by show 5 < 1000; decide, ?_⟩
    rw [un_ways]
    refine ⟨_, rfl, u, CU, dx, _, _, rfl, upd_same, T.clU, T.uLeft, un_gl, _, _, rfl, rfl, _, _, upd_same, by show 5 < 1000; decide, ?_⟩
    rw [upd_upd, show (((m + 1 : Nat) : Int) - 1) = (m : Int) by omega, un_left]
    obtain ⟨G, eG⟩ : ∃ G, G = upd H u (.ins CU dx (unF t wl m nl (cnt n par m (nextOf n par nx p)))) := ⟨_, rfl⟩
    rw [← eG]
    have hu1 : G u = some (.ins CU dx (unF t wl m nl (cnt n par m (nextOf n par nx p)))) := by rw [eG, upd_same]
    have sG : Same H1 G := by rw [eG]; exact a.sm.put a.nu
    have unl : u ≠ nl := ne_of hu a.nl (fun z => nomatch z)
    have hnl : G nl = some (.lst (nV nx)) := by rw [eG, upd_ne unl.symm]; exact a.nl
    clear eG
    refine ⟨_, rfl, u, CU, dx, _, _, rfl, hu1, T.clU, T.uNext, un_gn, nl, rfl, ⟨_, SqL.of hnl⟩, fun d nd => lc_it (walk_list (xs := nV nx)) (fun i H' => Same G H' ∧ H' d = some (.lst (nV ((nx.take i).filter fun o => decide (o ≠ p))))) ⟨(Same.refl G).put nd, upd_same⟩ (fun i H' _ h => SqL.of (h.1 _ _ hnl)) ?_ ?_⟩
    · rintro i z H2 H3 hi ⟨sm, hd⟩ ⟨rfl, ez⟩
      rw [nV_len] at hi
      have hg : nx[i]? = some nx[i] := List.getElem?_eq_getElem hi
      rw [nV_get hg] at ez
      cases ez
      refine ⟨rfl, _, rfl, _, rfl, rfl, _, rfl, ?_⟩
      by_cases e : nx[i] = p
      · refine ifF (nI_f (by omega)) ?_
        refine ⟨sm, ?_⟩
        rw [hd, List.take_succ, hg, List.filter_append]
        simp [e]
      · refine ifT (nI_t (by omega)) ?_
        refine ⟨_, rfl, _, hd, ?_, sm.put nd, ?_⟩
        · rw [nV_len]
          have h8 := nd_len fr.nd fr.lt
          have h9 := List.length_filter_le (fun o => decide (o ≠ p)) (nx.take i)
          rw [List.length_take] at h9
          exact sl20 (by have := ch.le; omega)
        · rw [upd_same, List.take_succ, hg, List.filter_append, nV_app]
          simp [e, nV_one]
    · rintro H2 ⟨s2, hd⟩
      rw [nV_len, List.take_length] at hd
      have sG2 := sG.trans s2
      obtain ⟨dxt, b, ls, h1, h2, _, h4, h5, h6⟩ := a.tr.mono sG2
      have hpl : p < ls.length := by omega
      have hg : ls[p]? = some ls[p] := List.getElem?_eq_getElem hpl
      have hk := h6 _ _ hg
      have hat : atI (ls.map V.ref) (p : Int) = some (V.ref ls[p]) := atI_nat (by rw [List.getElem?_map, hg]; rfl)
      refine ⟨_, rfl, _, rfl, u, CU, dx, _, _, rfl, s2 _ _ hu1, T.clU, T.uTree, un_gt, t, CT, dxt, _, _, rfl, h1, T.clT, T.tBelow, trF_below, _, rfl, _, _, _, _, rfl, rfl, SqL.of h4, hat, _, _, _, _, rfl, rfl, hd, hk, ?_, fun y ny => ?_⟩
      · rw [nV_len, nV_len]
        have h8 := nd_len fr.nd fr.lt
        have h9 := List.length_filter_le (fun o => decide (o ≠ p)) nx
        have h10 := kids_le (n := n) (par := par) (p := p)
        have h11 : 40 ≤ sizeLine := by decide
        have := ch.le
        omega
      · refine ⟨y, ((nx.filter fun o => decide (o ≠ p)) ++ kids n par p).map fun a => ((a : Nat) : Int), rfl, SqL.of (by rw [upd_same, ← nV_int, nV_app]), fun ns' z pm so nz => ?_⟩
        have e := sort_uniqLe pm so (srt_perm _) (srt_le _)
        subst e
        rw [← nV_int]
        have s3 : Same G (upd (upd H2 y (.lst (nV (nx.filter fun o => decide (o ≠ p)) ++ nV (kids n par p)))) z (.lst (nV (srt ((nx.filter fun o => decide (o ≠ p)) ++ kids n par p))))) := (s2.up ny).up nz
        refine ⟨_, rfl, u, CU, dx, _, rfl, s3 _ _ hu1, T.clU, T.uNext, by show 5 < 1000; decide, ?_⟩
        rw [un_next]
        have uz : u ≠ z := ne_of_none ((s2.up ny) _ _ hu1) nz
        have nz1 : H1 z = none := (sG.trans (s2.up ny)).nw nz
        refine q _ z ⟨Nat.le_of_succ_le a.mle, (sG.trans s3).put a.nu, a.nu, a.tr, a.wts, ⟨dx, upd_same⟩, ?_⟩ nz1
        exact (upd_ne uz.symm).trans upd_same
end
end K89
set_option Elab.async false
set_option linter.all false
set_option maxRecDepth 100000
set_option maxHeartbeats 1000000
namespace K89
open PySem PySem.Spec PyProof.Rows L2

def spCount : Sp := fun vs H Q _ => ∃ (c : Addr) (n : Nat) (par : Nat → Nat), vs = [.ref c] ∧ H c = some (.tup (chV n par)) ∧ Ch n par ∧ ∀ H', Same H H' → Q (.int (cnt n par n [0] : Int)) H'
def spOrderAt : Sp := fun vs H Q _ => ∃ (c : Addr) (n idx : Nat) (par : Nat → Nat), vs = [.ref c, .int (idx : Int)] ∧ H c = some (.tup (chV n par)) ∧ Ch n par ∧ idx < cnt n par n [0] ∧
  ∀ H' l ord, Same H H' → H l = none → H' l = some (.lst (nV ord)) → OrdV n par n [0] ord → rankOf n par n [0] ord = idx → Q (.ref l) H'
/-- between the posts of order_at -/
def OaW (CT CU : Addr) (G : Hp) (c u t wl l : Addr) (n idx : Nat) (par : Nat → Nat) (m : Nat) (σ : L2.St) (H' : Hp) : Prop :=
  ∃ (done nx : List Nat) (nl : Addr) (r : Nat) (a b : Option V), σ = [some (.ref c), some (.int (r : Int)), some (.ref u), some (.ref l), a, b] ∧ UnAt CT CU G H' u t wl nl c n par m nx ∧ H' l = some (.lst (nV done)) ∧ Pl n par m done nx ∧ nl ≠ l ∧ r < cnt n par m nx ∧
    ∀ rest, OrdV n par m nx rest → OrdV n par n [0] (done ++ rest) ∧ rankOf n par n [0] (done ++ rest) + r = idx + rankOf n par m nx rest
section
variable {P : Program} {w : World} {K : PySem.W.Frag} {mg : Str → Option Value} {base : Heap} {CT CU CO : Addr}
abbrev s_count_orders : Stmt := top 41
abbrev N_count_orders : List Str := ["chart"]
theorem sc_count_orders : FnScope N_count_orders ["chart"] (defScope s_count_orders) := ⟨rfl, rfl, rfl, by decide +kernel, rfl, by decide +kernel, by decide +kernel⟩
theorem k_count_orders (T : Txt K mg CT CU CO) (D : Dg K mg "count_orders" s_count_orders) (c_require_chart : Cal P w K mg base 3 "require_chart" ["chart"] spChart) (c_Unplaced : CalI P w K mg base 3 "Unplaced" CU ["self", "chart"] (spUnplaced CT CU)) :
    Cal P w K mg base 5 "count_orders" ["chart"] spCount := by
  refine D.ok sc_count_orders (fun _ _ _ _ _ _ us hl => match us, hl with | [_], _ => rfl) (fun vs H Q E h => ?_) (fun f cdv A outer s H vs Q E hr h => ?_)
  · obtain ⟨c, n, par, rfl, _⟩ := h
    rfl
  · obtain ⟨c, n, par, rfl, hc, ch, q⟩ := h
    refine ⟨_, (pss_cons (ps_expr (pe_cal c_require_chart (hr.mono (by decide)) (by rfl) (pa_cons (pv 0) pa_nil)))
  (pss_one (ps_ret (pe_fld (pe_mkc c_Unplaced (hr.mono (by decide)) (by rfl) (pa_cons (pv 0) pa_nil)) rfl)))), ?_⟩
    refine ⟨_, rfl, c, n, par, rfl, hc, ch, fun H1 s1 => ?_⟩
    refine ⟨_, rfl, fun u dx nu ndx nex => ⟨H1, u, c, dx, n, par, rfl, made nu ndx, nu, upd_same, s1 _ _ hc, ch, fun G H2 t wl nl sG a => ⟨rfl, ?_⟩⟩⟩
    obtain ⟨dx2, e⟩ := a.at_
    exact ⟨u, CU, dx2, _, _, rfl, e, T.clU, T.uWays, un_gy, q H2 (s1.trans (sG.trans a.sm))⟩
abbrev s_order_at : Stmt := top 42
abbrev N_order_at : List Str := ["chart", "index", "unplaced", "order", "post", "ways"]
theorem sc_order_at : FnScope N_order_at ["chart", "index"] (defScope s_order_at) := ⟨rfl, rfl, rfl, by decide +kernel, rfl, by decide +kernel, by decide +kernel⟩
theorem k_order_at (T : Txt K mg CT CU CO) (D : Dg K mg "order_at" s_order_at) (c_require_chart : Cal P w K mg base 3 "require_chart" ["chart"] spChart) (c_is_whole : Cal P w K mg base 1 "is_whole" ["value"] spWhole) (c_Unplaced : CalI P w K mg base 3 "Unplaced" CU ["self", "chart"] (spUnplaced CT CU))
    (cm_ways_after : CalM P w K mg base 1 CU "ways_after" ["self", "post"] (spWays CT CU)) (cm_place : CalM P w K mg base 2 CU "place" ["self", "post"] (spPlace CT CU)) :
    Cal P w K mg base 5 "order_at" ["chart", "index"] spOrderAt := by
  refine D.ok sc_order_at (fun _ _ _ _ _ _ us hl => match us, hl with | [_, _], _ => rfl) (fun vs H Q E h => ?_) (fun f cdv A outer s H vs Q E hr h => ?_)
  · obtain ⟨c, n, idx, par, rfl, _⟩ := h
    rfl
  · obtain ⟨c, n, idx, par, rfl, hc, ch, hidx, q⟩ := h
    refine ⟨_, (pss_cons (ps_expr (pe_cal c_require_chart (hr.mono (by decide)) (by rfl) (pa_cons (pv 0) pa_nil)))
  (pss_cons (ps_set (i := 2) sc_order_at.nd rfl (Or.inl rfl) (pe_mkc c_Unplaced (hr.mono (by decide)) (by rfl) (pa_cons (pv 0) pa_nil)))
  (pss_cons (ps_if (PW.pt (pw_or (pt_not (pt_val (pe_cal c_is_whole (hr.mono (by decide)) (by rfl) (pa_cons (pv 1) pa_nil)))) (pw_or1 (pt_cmpR op_ge (pv 1) (pe_fld (pv 2) rfl) (nomark _)))))
    pss_never pss_nil)
  (pss_cons (ps_set (i := 3) sc_order_at.nd rfl (Or.inl rfl) (pe_lst pa_nil))
  (pss_cons (ps_while PassesOwn.never (pt_cmpR op_gt (pe_fld (pv 2) rfl) pe_int (nomark _))
    (pss_cons (ps_for PassesOwn.never rfl (pi_list (pe_fld (pv 2) rfl)) (pg_name (i := 4) sc_order_at.nd rfl (Or.inl rfl))
    (pss_cons (ps_set (i := 5) sc_order_at.nd rfl (Or.inl rfl) (pe_mth cm_ways_after (hr.mono (by decide)) (pv 2) (pa_cons (pv 4) pa_nil)))
  (pss_cons (ps_if (pt_cmpR op_lt (pv 1) (pv 5) (nomark _))
    (pss_one ps_break) pss_nil)
  (pss_one (ps_aug (i := 1) sc_order_at.nd rfl (Or.inl rfl) (pv 5) ip_sub)))))
  (pss_cons (ps_expr (pe_mth cm_place (hr.mono (by decide)) (pv 2) (pa_cons (pv 4) pa_nil)))
  (pss_one (ps_expr (pe_bm PySem.F.plainAttrs_list PySem.F.slot_list_append PySem.F.type_list_append mt_append (pv 3) (pa_cons (pv 4) pa_nil)))))))
  (pss_one (ps_ret (pv 3)))))))), ?_⟩
    refine ⟨_, rfl, c, n, par, rfl, hc, ch, fun H1 s1 => ?_⟩
    refine ⟨_, rfl, fun u dx nu ndx nex => ⟨H1, u, c, dx, n, par, rfl, made nu ndx, nu, upd_same, s1 _ _ hc, ch, fun G H2 t wl nl sG a => ⟨rfl, ?_⟩⟩⟩
    obtain ⟨dx2, e⟩ := a.at_
    refine ⟨_, rfl, _, rfl, true, rfl, ?_⟩
    refine iteF ?_
    refine ⟨_, rfl, _, rfl, u, CU, dx2, _, _, rfl, e, T.clU, T.uWays, un_gy, _, _, rfl, rfl, _, rfl, ?_⟩
    refine ifF (decide_eq_false (by omega)) ?_
    refine ⟨Nat.zero_le _, fun l nl0 => ?_⟩
    have ul : u ≠ l := ne_of_none e nl0
    have lnG : G l = none := a.sm.nw nl0
    refine ⟨OaW CT CU G c u t wl l n idx par, ⟨n, [], [0], nl, idx, none, none, rfl, ⟨Nat.le_refl n, a.sm.put lnG, a.nu, a.tr, a.wts, ⟨dx2, (upd_ne ul).trans e⟩, (upd_ne (ne_of_none a.nl nl0)).trans a.nl⟩, upd_same, Pl.start ch.par ch.pos, ne_of_none a.nl nl0, hidx, fun rest h => ⟨h, by simp; omega⟩⟩, ?_⟩
    rintro m σ H3 ⟨done, nx, nl3, r, a1, b1, rfl, a3, hl3, pl, nll, hr3, hrest⟩
    obtain ⟨dx3, e3⟩ := a3.at_
    refine ⟨_, rfl, u, CU, dx3, _, _, rfl, e3, T.clU, T.uLeft, un_gl, _, _, rfl, rfl, _, rfl, ?_⟩
    cases m with
    | zero =>
      refine ifF (decide_eq_false (by omega)) ?_
      have hr0 : r = 0 := by
        have : cnt n par 0 nx = 1 := rfl
        omega
      obtain ⟨o1, o2⟩ := hrest [] rfl
      rw [List.append_nil] at o1 o2
      have : rankOf n par 0 nx [] = 0 := rfl
      exact ⟨_, rfl, q H3 l done (s1.trans (sG.trans a3.sm)) ((s1.trans sG).nw lnG) hl3 o1 (by omega)⟩
    | succ m =>
      refine ifT (decide_eq_true (by omega)) ?_
      refine ⟨fun σ' H' => ∃ m', m' < m + 1 ∧ OaW CT CU G c u t wl l n idx par m' σ' H', fun _ _ z => z, ?_⟩
      have lts : nx.Pairwise (· < ·) := lt_of_le_nd pl.sort pl.fr.nd
      obtain ⟨ee, hee⟩ : ∃ ee : Nat → Nat, ee = fun p => cnt n par m (nextOf n par nx p) := ⟨_, rfl⟩
      have hcnt : cnt n par (m + 1) nx = (nx.map ee).sum := by rw [hee]; rfl
      refine ⟨_, rfl, u, CU, dx3, _, _, rfl, e3, T.clU, T.uNext, un_gn, nl3, rfl, ⟨_, SqL.of a3.nl⟩, for_it (walk_list (xs := nV nx)) (fun i σ H' => ∃ (r' : Nat) (a b : Option V), σ = [some (.ref c), some (.int (r' : Int)), some (.ref u), some (.ref l), a, b] ∧ H' = H3 ∧ r = ((nx.take i).map ee).sum + r') ⟨r, _, _, rfl, rfl, by simp⟩ (fun i σ H' _ ⟨_, _, _, _, h, _⟩ => by rw [h]; exact SqL.of a3.nl) ?_ ?_⟩
      · rintro i z σ H4 H5 hi ⟨r', a2, b2, rfl, rfl, hr'⟩ ⟨rfl, ez⟩
        rw [nV_len] at hi
        have hg : nx[i]? = some nx[i] := List.getElem?_eq_getElem hi
        rw [nV_get hg] at ez
        cases ez
        obtain ⟨p, ep⟩ : ∃ p, p = nx[i] := ⟨_, rfl⟩
        have hpm : p ∈ nx := by rw [ep]; exact List.getElem_mem hi
        rw [← ep]
        refine ⟨_, rfl, u, dx3, _, rfl, e3, un_no (by decide +kernel) (by decide +kernel) (by decide +kernel) (by decide +kernel) (by decide +kernel), _, rfl, G, u, t, wl, nl3, c, n, m, p, par, nx, rfl, a3, pl.fr, hpm, ?_⟩
        refine ⟨_, rfl, _, rfl, _, _, rfl, rfl, _, rfl, ?_⟩
        by_cases hlt : r' < cnt n par m (nextOf n par nx p)
        · refine ifT (decide_eq_true (by omega)) ?_
          have a4 := a3.re (to_drop a3.sm a3.nu) drop_at drop_same
          refine ⟨_, rfl, u, dx3, _, rfl, e3, un_no (by decide +kernel) (by decide +kernel) (by decide +kernel) (by decide +kernel) (by decide +kernel), _, rfl, drop1 H5 u, u, t, wl, nl3, c, n, m, p, par, nx, rfl, a4, pl.fr, hpm, fun H6 nl6 a6 nn6 => ?_⟩
          have hld : drop1 H5 u l = some (.lst (nV done)) := (drop_ne ul.symm).trans hl3
          have hl6 : H6 l = some (.lst (nV done)) := a6.sm _ _ hld
          have ll6 : nl6 ≠ l := fun z => by rw [z, hld] at nn6; cases nn6
          obtain ⟨dx6, e6⟩ := a6.at_
          refine ⟨_, rfl, .inl ⟨rfl, _, SqL.of hl6⟩, _, rfl, l, _, _, rfl, rfl, hl6, ?_, ?_⟩
          · rw [nV_len]
            have := pl.len
            exact sl20 (by have := ch.le; omega)
          · refine ⟨m, Nat.lt_succ_self m, done ++ [p], nextOf n par nx p, nl6, r', _, _, rfl, ⟨a6.mle, ((to_drop a3.sm a3.nu).trans a6.sm).put lnG, a3.nu, a3.tr, a3.wts, ⟨dx6, (upd_ne ul).trans e6⟩, (upd_ne ll6).trans a6.nl⟩, by rw [upd_same, nV_app, nV_one], pl.next ch.par hpm, ll6, hlt, fun rest hro => ?_⟩
            obtain ⟨o1, o2⟩ := hrest (p :: rest) ⟨p, rest, rfl, hpm, hro⟩
            rw [List.append_assoc]
            refine ⟨o1, ?_⟩
            have e7 : rankOf n par (m + 1) nx (p :: rest) = ((nx.take i).map ee).sum + rankOf n par m (nextOf n par nx p) rest := by
              rw [rankOf, ep, filter_take lts hi, hee]
            rw [e7] at o2
            show rankOf n par n [0] (done ++ p :: rest) + r' = _
            omega
        · refine ifF (decide_eq_false (by omega)) ?_
          refine ⟨_, rfl, _, rfl, _, _, rfl, rfl, ?_⟩
          refine ⟨r' - cnt n par m (nextOf n par nx p), some (.int (p : Int)), some (.int (cnt n par m (nextOf n par nx p) : Int)), ?_, rfl, ?_⟩
          · have : ((r' : Int) - (cnt n par m (nextOf n par nx p) : Int)) = ((r' - cnt n par m (nextOf n par nx p) : Nat) : Int) := by omega
            rw [← this]
            rfl
          · rw [List.take_succ, hg, List.map_append, List.sum_append]
            simp only [Option.toList_some, List.map_cons, List.map_nil, List.sum_cons, List.sum_nil]
            rw [← ep, hee]
            rw [hee] at hr'
            show r = _ + (cnt n par m (nextOf n par nx p) + 0) + _
            omega
      · rintro σ H4 ⟨r', a2, b2, rfl, rfl, hr'⟩
        rw [nV_len, List.take_length, ← hcnt] at hr'
        omega
end
end K89
set_option Elab.async false
set_option linter.all false
set_option maxRecDepth 100000
set_option maxHeartbeats 1000000
namespace K89
open PySem PySem.Spec PyProof.Rows L2

def spOrd : Sp := fun vs H Q _ => ∃ (c l : Addr) (n : Nat) (par : Nat → Nat) (ord : List Nat), vs = [.ref c, .ref l] ∧ H c = some (.tup (chV n par)) ∧ H l = some (.lst (nV ord)) ∧ Ch n par ∧ Ord n par ord ∧ ∀ H', Same H H' → Q .non H'
def spIndex : Sp := fun vs H Q _ => ∃ (c l : Addr) (n : Nat) (par : Nat → Nat) (ord : List Nat), vs = [.ref c, .ref l] ∧ H c = some (.tup (chV n par)) ∧ H l = some (.lst (nV ord)) ∧ Ch n par ∧ OrdV n par n [0] ord ∧ ∀ H', Same H H' → Q (.int (rankOf n par n [0] ord : Int)) H'
section
variable {P : Program} {w : World} {K : PySem.W.Frag} {mg : Str → Option Value} {base : Heap} {CT CU CO : Addr}
abbrev s_order_fault : Stmt := top 38
abbrev N_order_fault : List Str := ["chart", "value", "seen", "index", "post"]
theorem sc_order_fault : FnScope N_order_fault ["chart", "value"] (defScope s_order_fault) := ⟨rfl, rfl, rfl, by decide +kernel, rfl, by decide +kernel, by decide +kernel⟩
theorem k_order_fault (T : Txt K mg CT CU CO) (D : Dg K mg "order_fault" s_order_fault) (c_is_whole : Cal P w K mg base 1 "is_whole" ["value"] spWhole) : Cal P w K mg base 2 "order_fault" ["chart", "value"] spOrd := by
  refine D.ok sc_order_fault (fun _ _ _ _ _ _ us hl => match us, hl with | [_, _], _ => rfl) (fun vs H Q E h => ?_) (fun f cdv A outer s H vs Q E hr h => ?_)
  · obtain ⟨c, l, n, par, ord, rfl, _⟩ := h
    rfl
  · obtain ⟨c, l, n, par, ord, rfl, hc, hl, ch, oo, q⟩ := h
    refine ⟨_, (pss_cons (ps_if (PW.pt (pw_or (pt_not (pt_val (pe_callB call_isi (by rfl) T.isinstance (by decide +kernel) (pa_cons (pv 1) (pa_cons (pe_bltn (v := .ty "list") (by rfl) T.list (by decide +kernel) rfl) pa_nil))))) (pw_or1 (pt_cmpR op_ne (pe_callB call_len_seq (by rfl) T.len (by decide +kernel) (pa_cons (pv 1) pa_nil)) (pe_callB call_len_seq (by rfl) T.len (by decide +kernel) (pa_cons (pv 0) pa_nil)) (nomark _)))))
    pss_never pss_nil)
  (pss_cons (ps_set (i := 2) sc_order_fault.nd rfl (Or.inl rfl) pe_dnewK)
  (pss_cons (ps_for PassesOwn.never rfl (pi_enum (by rfl) T.enumerate (pa_cons (pv 1) pa_nil)) (pg_tup (by rfl) (pgs_cons (pg_name (i := 3) sc_order_fault.nd rfl (Or.inl rfl)) (pgs_cons (pg_name (i := 4) sc_order_fault.nd rfl (Or.inl rfl)) pgs_nil)))
    (pss_cons (ps_if (PW.pt (pw_or (pt_not (pt_val (pe_cal c_is_whole (hr.mono (by decide)) (by rfl) (pa_cons (pv 4) pa_nil)))) (pw_or (pt_cmpR op_ge (pv 4) (pe_callB call_len_seq (by rfl) T.len (by decide +kernel) (pa_cons (pv 0) pa_nil)) (nomark _)) (pw_or1 (pt_cmp (pc_din (hu_of hr) (pv 4) (pv 2)))))))
    pss_never pss_nil)
  (pss_cons (ps_if (PW.pt (pw_and (pt_cmpR op_gt (pv 4) pe_int (nomark _)) (pw_and1 (pt_cmp (pc_dnotin (hu_of hr) (pe_ix ix_tup (pv 0) (pv 4) (fun _ _ => rfl)) (pv 2))))))
    pss_never pss_nil)
  (pss_one (ps_dput (hu_of hr) (pv 2) (pv 4) pe_bl rfl)))))
  (pss_one (ps_ret pe_non))))), ?_⟩
    have hle := ch.le
    have hlen := oo.len
    refine ⟨_, rfl, _, _, _, _, true, rfl, .ty _, .base (.lst hl), kit_ty (by decide +kernel), true, rfl, ?_⟩
    refine iteF ?_
    refine ⟨_, rfl, l, _, rfl, .inl (SqL.of hl), _, rfl, c, _, rfl, .inr (SqT.of hc), rfl, _, rfl, ?_⟩
    rw [nV_len, chV_len, hlen]
    refine ifF (nI_f rfl) ?_
    intro d nd
    have s0 := (Same.refl H).put (o := .dK []) nd
    refine ⟨_, rfl, l, _, rfl, SqL.of (s0 _ _ hl), for_it walk_enum (fun i σ H' => ∃ a b, σ = [some (.ref c), some (.ref l), some (.ref d), a, b] ∧ Same H H' ∧ ∃ kvs, H' d = some (.dK kvs) ∧ kvs.length ≤ i ∧ ∀ x : Nat, (valV kvs (Sum.inl (x : Int))).isSome = decide (x ∈ ord.take i))
      ⟨_, _, rfl, s0, [], upd_same, Nat.le_refl _, fun x => by simp [valV_nil]⟩ (fun i σ H' _ ⟨_, _, _, sm, _⟩ => SqL.of (sm _ _ hl)) ?_ ?_⟩
    · rintro i z σ H1 H2 hi ⟨a, b, rfl, sm, kvs, hd, hkl, hk⟩ hy
      obtain ⟨t, y1, rfl, nT, rfl, e2⟩ := yen hy
      rw [nV_len] at hi
      have hg : ord[i]? = some ord[i] := List.getElem?_eq_getElem hi
      rw [nV_get hg] at e2
      cases e2
      obtain ⟨p, ep⟩ : ∃ p, p = ord[i] := ⟨_, rfl⟩
      have hpn : p < n := oo.lt p (by rw [ep]; exact List.getElem_mem hi)
      have hup := oo.up i hi
      rw [← ep] at hup
      have hnot : p ∉ ord.take i := by
        intro hm
        obtain ⟨j, hj, ej⟩ := List.mem_take_iff_getElem.mp hm
        have := (List.getElem_inj (h₀ := by omega) (h₁ := hi) oo.nd).mp (ej.trans ep)
        omega
      rw [← ep]
      have dt : d ≠ t := ne_of_none hd nT
      have hd2 := (upd_ne (o := .tup [.int (i : Int), .int (p : Int)]) dt).trans hd
      have sm2 := sm.up (o := .tup [.int (i : Int), .int (p : Int)]) nT
      refine ⟨_, _, rfl, SqT.of upd_same, rfl, _, _, rfl, _, _, rfl, rfl, ?_⟩
      refine ⟨_, rfl, _, rfl, true, rfl, ?_⟩
      refine iteF ?_
      refine ⟨_, rfl, _, rfl, c, _, rfl, .inr (SqT.of (sm2 _ _ hc)), _, _, rfl, rfl, _, rfl, ?_⟩
      rw [chV_len]
      refine ifF (decide_eq_false (by omega)) ?_
      refine ⟨_, rfl, _, rfl, d, _, rfl, DGet.k (k := Sum.inl (p : Int)) hd2, _, rfl, ?_⟩
      refine ifF (by rw [hk]; exact decide_eq_false hnot) ?_
      refine ⟨_, rfl, _, _, rfl, rfl, _, rfl, ?_⟩
      have fin : ∃ a b, [some (V.ref c), some (.ref l), some (.ref d), some (V.int (i : Int)), some (V.int (p : Int))] = [some (V.ref c), some (.ref l), some (.ref d), a, b] ∧ Same H (upd (upd H1 t (.tup [V.int (i : Int), V.int (p : Int)])) d (.dK (putK kvs (Sum.inl (p : Int)) (.bl true)))) ∧
          ∃ kvs', upd (upd H1 t (.tup [V.int (i : Int), V.int (p : Int)])) d (.dK (putK kvs (Sum.inl (p : Int)) (.bl true))) d = some (.dK kvs') ∧ kvs'.length ≤ i + 1 ∧ ∀ x : Nat, (valV kvs' (Sum.inl (x : Int))).isSome = decide (x ∈ ord.take (i + 1)) := by
        refine ⟨_, _, rfl, sm2.put nd, _, upd_same, ?_, fun x => ?_⟩
        · have := putK_le kvs (Sum.inl (p : Int) : Key) (.bl true)
          omega
        · rw [valV_put, List.take_succ, hg]
          by_cases hx : x = p
          · subst hx
            rw [if_pos rfl]
            simp [← ep]
          · rw [if_neg (fun z => hx (by have := Sum.inl.inj z; omega)), hk]
            simp [← ep, hx]
      have put : ∀ (hlt : kvs.length < sizeLine), True := fun _ => trivial
      by_cases h0 : p = 0
      · refine ifF (decide_eq_false (by omega)) ?_
        refine ifF rfl ?_
        exact ⟨_, rfl, _, rfl, d, _, rfl, DPut.k (k := Sum.inl (p : Int)) hd2 (sl20 (by omega)), fin⟩
      · refine ifT (decide_eq_true (by omega)) ?_
        refine ⟨_, rfl, _, rfl, _, _, _, _, rfl, rfl, SqT.of (sm2 _ _ hc), at_ch hpn (by omega), _, rfl, d, _, rfl, DGet.k (k := Sum.inl (par p : Int)) hd2, _, rfl, ?_⟩
        refine ifF (by rw [hk, decide_eq_true (hup (by omega))]; rfl) ?_
        exact ⟨_, rfl, _, rfl, d, _, rfl, DPut.k (k := Sum.inl (p : Int)) hd2 (sl20 (by omega)), fin⟩
    · rintro σ H1 ⟨a, b, rfl, sm, _⟩
      exact q H1 sm
abbrev s_require_order : Stmt := top 39
abbrev N_require_order : List Str := ["chart", "order", "reason"]
theorem sc_require_order : FnScope N_require_order ["chart", "order"] (defScope s_require_order) := ⟨rfl, rfl, rfl, by decide +kernel, rfl, by decide +kernel, by decide +kernel⟩
theorem k_require_order (T : Txt K mg CT CU CO) (D : Dg K mg "require_order" s_require_order) (c_order_fault : Cal P w K mg base 2 "order_fault" ["chart", "value"] spOrd) : Cal P w K mg base 3 "require_order" ["chart", "order"] spOrd := by
  refine D.ok sc_require_order (fun _ _ _ _ _ _ us hl => match us, hl with | [_, _], _ => rfl) (fun vs H Q E h => ?_) (fun f cdv A outer s H vs Q E hr h => ?_)
  · obtain ⟨c, l, n, par, ord, rfl, _⟩ := h
    rfl
  · obtain ⟨c, l, n, par, ord, rfl, hc, hl, ch, oo, q⟩ := h
    refine ⟨_, (pss_cons (ps_set (i := 2) sc_require_order.nd rfl (Or.inl rfl) (pe_cal c_order_fault (hr.mono (by decide)) (by rfl) (pa_cons (pv 0) (pa_cons (pv 1) pa_nil))))
  (pss_one (ps_if (pt_cmpR op_notN (pv 2) pe_non (nomark _))
    pss_never pss_nil))), ?_⟩
    refine ⟨_, rfl, _, rfl, c, l, n, par, ord, rfl, hc, hl, ch, oo, fun H' sm => ?_⟩
    exact ⟨_, rfl, rfl, _, rfl, iteF (q _ sm)⟩
abbrev s_order_index : Stmt := top 43
abbrev N_order_index : List Str := ["chart", "order", "unplaced", "index", "post", "other"]
theorem sc_order_index : FnScope N_order_index ["chart", "order"] (defScope s_order_index) := ⟨rfl, rfl, rfl, by decide +kernel, rfl, by decide +kernel, by decide +kernel⟩
theorem k_order_index (T : Txt K mg CT CU CO) (D : Dg K mg "order_index" s_order_index) (c_require_chart : Cal P w K mg base 3 "require_chart" ["chart"] spChart) (c_require_order : Cal P w K mg base 3 "require_order" ["chart", "order"] spOrd) (c_Unplaced : CalI P w K mg base 3 "Unplaced" CU ["self", "chart"] (spUnplaced CT CU))
    (cm_ways_after : CalM P w K mg base 1 CU "ways_after" ["self", "post"] (spWays CT CU)) (cm_place : CalM P w K mg base 2 CU "place" ["self", "post"] (spPlace CT CU)) :
    Cal P w K mg base 5 "order_index" ["chart", "order"] spIndex := by
  refine D.ok sc_order_index (fun _ _ _ _ _ _ us hl => match us, hl with | [_, _], _ => rfl) (fun vs H Q E h => ?_) (fun f cdv A outer s H vs Q E hr h => ?_)
  · obtain ⟨c, l, n, par, ord, rfl, _⟩ := h
    rfl
  · obtain ⟨c, l, n, par, ord, rfl, hc, hl, ch, ov, q⟩ := h
    refine ⟨_, (pss_cons (ps_expr (pe_cal c_require_chart (hr.mono (by decide)) (by rfl) (pa_cons (pv 0) pa_nil)))
  (pss_cons (ps_expr (pe_cal c_require_order (hr.mono (by decide)) (by rfl) (pa_cons (pv 0) (pa_cons (pv 1) pa_nil))))
  (pss_cons (ps_set (i := 2) sc_order_index.nd rfl (Or.inr rfl) (pe_mkc c_Unplaced (hr.mono (by decide)) (by rfl) (pa_cons (pv 0) pa_nil)))
  (pss_cons (ps_set (i := 3) sc_order_index.nd rfl (Or.inl rfl) pe_int)
  (pss_cons (ps_for PassesOwn.never rfl (pi_list (pv 1)) (pg_name (i := 4) sc_order_index.nd rfl (Or.inr rfl))
    (pss_cons (ps_aug (i := 3) sc_order_index.nd rfl (Or.inl rfl) (pe_callB (cr_sum rfl) (by rfl) T.sum (by decide +kernel) (pa_cons (pe_lc (own := [("other", 5)]) (g := gName 5) (by rfl) sc_order_index.nd (pi_list (pe_fld (pv 2) rfl)) (blkOk_by (N := N_order_index) (sc := defScope s_order_index) (by decide +kernel)) (fun _ _ _ _ _ => (pg_name (i := 5) sc_order_index.nd rfl (Or.inl rfl))) (fun _ _ _ _ _ => (pts_one (pt_cmpR op_lt (pv 5) (pv 4) (nomark _)))) (fun _ _ _ _ _ => (pe_mth cm_ways_after (hr.mono (by decide)) (pv 2) (pa_cons (pv 5) pa_nil)))) pa_nil)) ip_add)
  (pss_one (ps_expr (pe_mth cm_place (hr.mono (by decide)) (pv 2) (pa_cons (pv 4) pa_nil))))))
  (pss_one (ps_ret (pv 3)))))))), ?_⟩
    have hle := ch.le
    have oo := Ord.of ch.par ch.pos ov
    refine ⟨_, rfl, c, n, par, rfl, hc, ch, fun H1 s1 => ?_⟩
    refine ⟨_, rfl, _, rfl, c, l, n, par, ord, rfl, s1 _ _ hc, s1 _ _ hl, ch, oo, fun H2 s2 => ?_⟩
    have s2 := s1.trans s2
    refine ⟨_, rfl, fun u dx nu ndx nex => ⟨H2, u, c, dx, n, par, rfl, made nu ndx, nu, upd_same, s2 _ _ hc, ch, fun G H3 t wl nl sG a => ⟨rfl, ?_⟩⟩⟩
    have s3 := s2.trans sG
    refine ⟨_, rfl, l, rfl, ⟨_, SqL.of (a.sm _ _ (s3 _ _ hl))⟩, for_it (walk_list (xs := nV ord)) (fun i σ H' => ∃ (nx : List Nat) (nl : Addr) (r : Nat) (a b : Option V), σ = [some (.ref c), some (.ref l), some (.ref u), some (.int (r : Int)), a, b] ∧ UnAt CT CU G H' u t wl nl c n par (n - i) nx ∧ Pl n par (n - i) (ord.take i) nx ∧ OrdV n par (n - i) nx (ord.drop i) ∧ r + rankOf n par (n - i) nx (ord.drop i) = rankOf n par n [0] ord)
      ⟨[0], nl, 0, _, _, rfl, a, Pl.start ch.par ch.pos, ov, by simp⟩ (fun i σ H' _ ⟨_, _, _, _, _, _, h, _⟩ => SqL.of (h.sm _ _ (s3 _ _ hl))) ?_ ?_⟩
    · rintro i z σ H4 H5 hi ⟨nx, nl4, r, a1, b1, rfl, a4, pl, hov, hrk⟩ ⟨rfl, ez⟩
      rw [nV_len] at hi
      have hg : ord[i]? = some ord[i] := List.getElem?_eq_getElem hi
      rw [nV_get hg] at ez
      cases ez
      obtain ⟨m, em⟩ : ∃ m, n - i = m + 1 := ⟨n - i - 1, by have := oo.len; omega⟩
      have em2 : n - (i + 1) = m := by omega
      rw [em] at a4 pl hov hrk
      rw [em2]
      obtain ⟨p, rest, e5, hpm, hov2⟩ := hov
      have ed : ord.drop i = ord[i] :: ord.drop (i + 1) := List.drop_eq_getElem_cons hi
      rw [ed] at e5 hrk
      obtain ⟨e6, e7⟩ := List.cons.inj e5
      rw [e6] at hg hrk ⊢
      rw [← e7] at hov2
      obtain ⟨dx4, e4⟩ := a4.at_
      obtain ⟨ee, hee⟩ : ∃ ee : Nat → Nat, ee = fun p => cnt n par m (nextOf n par nx p) := ⟨_, rfl⟩
      have nxl := nd_len pl.fr.nd pl.fr.lt
      refine ⟨_, rfl, _, rfl, u, CU, dx4, _, _, rfl, e4, T.clU, T.uNext, un_gn, nl4, rfl, ⟨_, SqL.of a4.nl⟩, fun d nd => lc_it (walk_list (xs := nV nx)) (fun j H' => Same H5 H' ∧ H' d = some (.lst (nV (((nx.take j).filter fun o => decide (o < p)).map ee)))) ⟨(Same.refl H5).put nd, upd_same⟩ (fun j H' _ h => SqL.of (h.1 _ _ a4.nl)) ?_ ?_⟩
      · rintro j z H6 H7 hj ⟨sm, hd⟩ ⟨rfl, ez⟩
        rw [nV_len] at hj
        have hgj : nx[j]? = some nx[j] := List.getElem?_eq_getElem hj
        rw [nV_get hgj] at ez
        cases ez
        refine ⟨rfl, _, rfl, _, rfl, _, _, rfl, rfl, _, rfl, ?_⟩
        by_cases hlt : nx[j] < p
        · refine ifT (decide_eq_true (by omega)) ?_
          refine ⟨_, rfl, u, dx4, _, rfl, sm _ _ e4, un_no (by decide +kernel) (by decide +kernel) (by decide +kernel) (by decide +kernel) (by decide +kernel), _, rfl, G, u, t, wl, nl4, c, n, m, nx[j], par, nx, rfl, a4.mono sm, pl.fr, List.getElem_mem hj, _, hd, ?_, sm.put nd, ?_⟩
          · rw [nV_len, List.length_map]
            have h9 := List.length_filter_le (fun o => decide (o < p)) (nx.take j)
            rw [List.length_take] at h9
            exact sl20 (by omega)
          · rw [upd_same, List.take_succ, hgj, List.filter_append, List.map_append, nV_app]
            simp only [Option.toList_some, hlt, decide_true, List.filter_cons_of_pos, List.filter_nil, List.map_cons, List.map_nil, nV_one]
            rw [hee]
        · refine ifF (decide_eq_false (by omega)) ?_
          refine ⟨sm, ?_⟩
          rw [hd, List.take_succ, hgj, List.filter_append]
          simp [hlt]
      · rintro H6 ⟨sm, hd⟩
        rw [nV_len, List.take_length] at hd
        refine ⟨d, ((nx.filter fun o => decide (o < p)).map ee).map fun a => ((a : Nat) : Int), rfl, SqL.of (by rw [← nV_int]; exact hd), _, _, rfl, rfl, ?_⟩
        rw [sum_cast]
        have a6 := a4.mono sm
        obtain ⟨dx6, e6'⟩ := a6.at_
        refine ⟨_, rfl, u, dx6, _, rfl, e6', un_no (by decide +kernel) (by decide +kernel) (by decide +kernel) (by decide +kernel) (by decide +kernel), _, rfl, G, u, t, wl, nl4, c, n, m, p, par, nx, rfl, a6, pl.fr, hpm, fun H7 nl7 a7 _ => ?_⟩
        refine ⟨nextOf n par nx p, nl7, r + ((nx.filter fun o => decide (o < p)).map ee).sum, some (.int (p : Int)), b1, ?_, a7, ?_, hov2, ?_⟩
        · show _ = [_, _, _, some (V.int (((r + ((nx.filter fun o => decide (o < p)).map ee).sum : Nat) : Nat) : Int)), _, _]
          rw [Int.natCast_add]
          rfl
        · have := pl.next ch.par hpm
          rw [List.take_succ, hg]
          exact this
        · rw [rankOf] at hrk
          rw [hee]
          omega
    · rintro σ H4 ⟨nx, nl4, r, a1, b1, rfl, a4, pl, hov, hrk⟩
      rw [nV_len, oo.len, Nat.sub_self] at hrk
      have : rankOf n par 0 nx (ord.drop n) = 0 := by cases ord.drop n <;> rfl
      rw [this, Nat.add_zero] at hrk
      refine ⟨_, rfl, ?_⟩
      rw [hrk]
      exact q H4 (s3.trans a4.sm)
end
end K89
set_option Elab.async false
set_option linter.all false
set_option maxRecDepth 100000
set_option maxHeartbeats 1000000
namespace K89
open PySem PySem.Spec PyProof.Rows L2

def spOrderOf : Sp := fun vs H Q _ => ∃ (c v : Addr) (n : Nat) (par : Nat → Nat) (A : Fn), vs = [.ref c, .ref v] ∧ H c = some (.tup (chV n par)) ∧ AT H v n A ∧ Ch n par ∧ Arr n par A ∧ ∀ H' l rows, Same H H' → H l = none → H' l = some (.lst (nV rows)) → RowsOf n A rows → Q (.ref l) H'
section
variable {P : Program} {w : World} {K : PySem.W.Frag} {mg : Str → Option Value} {base : Heap} {CT CU CO : Addr}
theorem pairs_nd {n : Nat} {A : Fn} (inj : Inj n A) : (((List.range n).filterMap fun k => (A k).map fun x => (x, k)).map (·.1)).Nodup := by
  rw [List.map_filterMap]
  have e : (fun k => Option.map (·.1) ((A k).map fun x => (x, k))) = A := by
    funext k
    cases A k <;> rfl
  rw [e]
  refine List.Pairwise.filterMap (R := fun i j => i < n ∧ j < n ∧ i ≠ j) A (fun i j h a ha b hb e => ?_) ?_
  · obtain ⟨h1, h2, h3⟩ := h
    subst e
    exact h3 (inj i j a h1 h2 ha hb)
  · refine List.pairwise_iff_getElem.mpr fun i j hi hj hij => ?_
    rw [List.length_range] at hi hj
    simp only [List.getElem_range]
    omega
abbrev s_order_of : Stmt := top 44
abbrev N_order_of : List Str := ["chart", "arrangement", "held", "post", "person"]
theorem sc_order_of : FnScope N_order_of ["chart", "arrangement"] (defScope s_order_of) := ⟨rfl, rfl, rfl, by decide +kernel, rfl, by decide +kernel, by decide +kernel⟩
theorem k_order_of (T : Txt K mg CT CU CO) (D : Dg K mg "order_of" s_order_of) (c_require_chart : Cal P w K mg base 3 "require_chart" ["chart"] spChart) (c_require_arrangement : Cal P w K mg base 4 "require_arrangement" ["chart", "arrangement"] spArr) :
    Cal P w K mg base 5 "order_of" ["chart", "arrangement"] spOrderOf := by
  refine D.ok sc_order_of (fun _ _ _ _ _ _ us hl => match us, hl with | [_, _], _ => rfl) (fun vs H Q E h => ?_) (fun f cdv A outer s H vs Q E hr h => ?_)
  · obtain ⟨c, v, n, par, A, rfl, _⟩ := h
    rfl
  · obtain ⟨c, v, n, par, A, rfl, hc, hv, ch, ar, q⟩ := h
    refine ⟨_, (pss_cons (ps_expr (pe_cal c_require_chart (hr.mono (by decide)) (by rfl) (pa_cons (pv 0) pa_nil)))
  (pss_cons (ps_expr (pe_cal c_require_arrangement (hr.mono (by decide)) (by rfl) (pa_cons (pv 0) (pa_cons (pv 1) pa_nil))))
  (pss_cons (ps_setLc (i := 2) (own := [("post", 3), ("person", 4)]) (g := gTup K 2 (gCons (gName 3) (gCons (gName 4) gNil))) (by rfl) sc_order_of.nd rfl rfl (sw_true rfl rfl rfl (by decide +kernel)) (pi_enumT (by rfl) T.enumerate (pa_cons (pv 1) pa_nil)) (blkOk_by (N := N_order_of) (sc := defScope s_order_of) (by decide +kernel)) (fun _ _ _ _ _ => (pg_tup (by rfl) (pgs_cons (pg_name (i := 3) sc_order_of.nd rfl (Or.inl rfl)) (pgs_cons (pg_name (i := 4) sc_order_of.nd rfl (Or.inl rfl)) pgs_nil)))) (fun _ _ _ _ _ => (pts_one (pt_cmpR op_notN (pv 4) pe_non (nomark _)))) (fun _ _ _ _ _ => (pe_tup (pa_cons (pv 4) (pa_cons (pv 3) pa_nil)))))
  (pss_one (ps_ret (pe_lc (own := [("person", 4), ("post", 3)]) (g := gTup K 2 (gCons (gName 4) (gCons (gName 3) gNil))) (by rfl) sc_order_of.nd (pi_list (pe_callB cr_sortedPO (by rfl) T.sorted (by decide +kernel) (pa_cons (pv 2) pa_nil))) (blkOk_by (N := N_order_of) (sc := defScope s_order_of) (by decide +kernel)) (fun _ _ _ _ _ => (pg_tup (by rfl) (pgs_cons (pg_name (i := 4) sc_order_of.nd rfl (Or.inl rfl)) (pgs_cons (pg_name (i := 3) sc_order_of.nd rfl (Or.inl rfl)) pgs_nil)))) (fun _ _ _ _ _ => pts_nil) (fun _ _ _ _ _ => (pv 3)))))))), ?_⟩
    have hle := ch.le
    refine ⟨_, rfl, c, n, par, rfl, hc, ch, fun H1 s1 => ?_⟩
    refine ⟨_, rfl, _, rfl, c, v, n, par, A, rfl, s1 _ _ hc, hv.mono s1, ch, ar, fun H2 s2 => ?_⟩
    have s2 := s1.trans s2
    refine ⟨_, rfl, v, _, rfl, (hv.mono s2).sq, fun d nd => lc_it walk_enumT (fun i H' => Same H2 H' ∧ ∃ hs, H' d = some (.lst (pV hs)) ∧ PairsAt H' hs ∧ hs.length ≤ i ∧ hs.map (·.2) = (List.range i).filterMap fun k => (A k).map fun x => (x, k))
      ⟨(Same.refl H2).put nd, [], upd_same, (fun q h => by simp at h), Nat.le_refl _, rfl⟩ (fun i H' _ h => ((hv.mono s2).mono h.1).sq) ?_ ?_⟩
    · rintro i z H3 H4 hi ⟨sm, hs, hd, hP, hl, hm⟩ hy
      obtain ⟨t, y1, rfl, nT, rfl, e2⟩ := yen hy
      rw [arV_len] at hi
      rw [arV_get hi] at e2
      cases e2
      have dt : d ≠ t := ne_of_none hd nT
      have hP2 : ∀ (o : HO), PairsAt (upd H3 t o) hs := fun o y hy => (upd_ne (ne_of_none (hP y hy) nT)).trans (hP y hy)
      refine ⟨_, _, rfl, SqT.of upd_same, rfl, _, _, rfl, _, _, rfl, rfl, rfl, _, rfl, rfl, _, rfl, ?_⟩
      cases e : A i with
      | none =>
        refine ifF nn_non ?_
        refine ⟨sm.up nT, hs, (upd_ne dt).trans hd, hP2 _, by omega, ?_⟩
        rw [List.range_succ, List.filterMap_append, hm]
        simp [e]
      | some x =>
        refine ifT nn_int ?_
        refine ⟨_, rfl, _, rfl, by show 2 ≤ sizeLine; decide, fun u nu => ?_⟩
        have du : d ≠ u := ne_of_none ((upd_ne (o := .tup [V.int (i : Int), V.int (x : Int)]) dt).trans hd) nu
        refine ⟨_, (upd_ne du).trans ((upd_ne dt).trans hd), ?_, ((sm.up nT).up nu).put nd, hs ++ [(u, x, i)], ?_, fun y hy => ?_, ?_, ?_⟩
        · simp only [pV, List.length_map]
          exact sl20 (by omega)
        · rw [upd_same, pV, pV, List.map_append]
          rfl
        · rcases List.mem_append.mp hy with hy | hy
          · have h1 := hP2 (.tup [V.int (i : Int), V.int (x : Int)]) y hy
            have h2 : y.1 ≠ u := ne_of_none h1 nu
            have h3 : y.1 ≠ d := ne_of (hP y hy) hd (fun z => nomatch z)
            exact (upd_ne h3).trans ((upd_ne h2).trans h1)
          · rw [List.mem_singleton.mp hy]
            exact (upd_ne du.symm).trans upd_same
        · rw [List.length_append]
          simp
          omega
        · rw [List.map_append, List.range_succ, List.filterMap_append, hm]
          simp [e]
    · rintro H3 ⟨sm, hs, hd, hP, hl, hm⟩
      rw [arV_len] at hl hm
      have mem : ∀ y ∈ hs, y.2.2 < n ∧ A y.2.2 = some y.2.1 := fun y hy => by
        have : y.2 ∈ (List.range n).filterMap fun k => (A k).map fun x => (x, k) := by rw [← hm]; exact List.mem_map.mpr ⟨y, hy, rfl⟩
        obtain ⟨k, hk1, hk2⟩ := List.mem_filterMap.mp this
        cases e : A k with
        | none => rw [e] at hk2; cases hk2
        | some x =>
          rw [e] at hk2
          have e2 : (x, k) = y.2 := Option.some.inj hk2
          rw [← e2]
          exact ⟨List.mem_range.mp hk1, e⟩
      refine ⟨_, rfl, d, _, kOf H3, rfl, SqL.of hd, fun z hz => ?_, fun ys p srt stb np => ⟨p, rfl, ⟨_, SqL.of upd_same⟩, fun d2 nd2 => lc_it (walk_list (xs := ys)) (fun j H' => Same (upd H3 p (.lst ys)) H' ∧ H' d2 = some (.lst (nV ((ys.take j).map fun y => (kOf H3 y).2.toNat)))) ⟨(Same.refl _).put nd2, upd_same⟩ (fun i H' _ h => SqL.of (h.1 _ _ upd_same)) ?_ ?_⟩⟩
      · obtain ⟨y, hy, rfl⟩ := List.mem_map.mp hz
        refine ⟨y.1, rfl, ?_⟩
        rw [kOf_at (hP y hy)]
        exact hP y hy
      · rintro j z H4 H5 hj ⟨sm4, hd4⟩ ⟨rfl, ez⟩
        have hzm : z ∈ ys := List.mem_of_getElem? ez
        obtain ⟨y, hy, rfl⟩ := List.mem_map.mp (stb.perm.mem_iff.mp hzm)
        have hy5 := sm4 _ _ ((Same.up (Same.refl H3) np) _ _ (hP y hy))
        refine ⟨_, _, rfl, SqT.of hy5, rfl, _, _, rfl, _, _, rfl, rfl, rfl, _, rfl, _, hd4, ?_, sm4.put nd2, ?_⟩
        · rw [nV_len, List.length_map, List.length_take]
          have := stb.perm.length_eq
          simp only [pV, List.length_map] at this
          exact sl20 (by omega)
        · rw [upd_same, List.take_succ, ez, List.map_append, nV_app]
          simp only [Option.toList_some, List.map_cons, List.map_nil, nV_one, kOf_at (hP y hy), Int.toNat_natCast]
      · rintro H4 ⟨sm4, hd4⟩
        rw [List.take_length] at hd4
        have s4 : Same H2 H4 := (sm.up np).trans sm4
        have back : ∀ z ∈ ys, ∃ y ∈ hs, z = V.ref y.1 := fun z hz => by
          obtain ⟨y, hy, e⟩ := List.mem_map.mp (stb.perm.mem_iff.mp hz)
          exact ⟨y, hy, e.symm⟩
        have pers : (ys.map fun z => (kOf H3 z).2.toNat).map (fun k => (A k).getD 0) = ys.map fun z => (kOf H3 z).1.toNat := by
          rw [List.map_map]
          refine List.map_congr_left fun z hz => ?_
          obtain ⟨y, hy, rfl⟩ := back z hz
          show (A (kOf H3 (V.ref y.1)).2.toNat).getD 0 = _
          rw [kOf_at (hP y hy)]
          simp [(mem y hy).2]
        refine q H4 d2 _ (s2.trans s4) ((s2.trans (sm.up np)).nw nd2) hd4 ⟨fun k => ?_, ?_⟩
        · rw [List.mem_map]
          constructor
          · rintro ⟨z, hz, e⟩
            obtain ⟨y, hy, rfl⟩ := back z hz
            rw [kOf_at (hP y hy)] at e
            have e : y.2.2 = k := by simpa using e
            rw [← e]
            exact ⟨(mem y hy).1, _, (mem y hy).2⟩
          · rintro ⟨hk, x, ex⟩
            have : (x, k) ∈ hs.map (·.2) := by rw [hm]; exact List.mem_filterMap.mpr ⟨k, List.mem_range.mpr hk, by rw [ex]; rfl⟩
            obtain ⟨y, hy, e⟩ := List.mem_map.mp this
            refine ⟨V.ref y.1, stb.perm.mem_iff.mpr (List.mem_map.mpr ⟨y, hy, rfl⟩), ?_⟩
            rw [kOf_at (hP y hy), e]
            simp
        · rw [pers]
          refine lt_of_le_nd ?_ ?_
          · refine List.pairwise_map.mpr ?_
            have : ys.Pairwise fun a b => a ∈ ys ∧ b ∈ ys := List.pairwise_iff_getElem.mpr fun i j hi hj _ => ⟨List.getElem_mem hi, List.getElem_mem hj⟩
            refine (srt.and this).imp fun {a b} h => ?_
            obtain ⟨h1, h2, h3⟩ := h
            obtain ⟨y, hy, rfl⟩ := back a h2
            obtain ⟨y', hy', rfl⟩ := back b h3
            have h4 := SrtO.lexB_no.mp h1
            rw [kOf_at (hP y hy), kOf_at (hP y' hy')] at h4 ⊢
            simp at h4 ⊢
            omega
          · have e1 : (ys.map fun z => (kOf H3 z).1.toNat).Perm ((pV hs).map fun z => (kOf H3 z).1.toNat) := stb.perm.map _
            have e2 : (pV hs).map (fun z => (kOf H3 z).1.toNat) = (hs.map (·.2)).map (·.1) := by
              rw [pV, List.map_map, List.map_map]
              refine List.map_congr_left fun y hy => ?_
              show (kOf H3 (V.ref y.1)).1.toNat = y.2.1
              rw [kOf_at (hP y hy)]
              simp
            rw [e1.nodup_iff, e2, hm]
            exact pairs_nd ar.inj
end
end K89
set_option Elab.async false
set_option linter.all false
set_option maxRecDepth 100000
set_option maxHeartbeats 1000000
namespace K89
open PySem PySem.Spec PyProof.Rows L2

def spSen : Sp := fun vs H Q _ => ∃ (l : Addr) (xs : List Nat), vs = [.ref l, .int (xs.length : Int)] ∧ H l = some (.lst (nV xs)) ∧ xs.Pairwise (· < ·) ∧ ∀ H', Same H H' → Q .non H'
def spOffice (CO : Addr) : Sp := fun vs H Q _ => ∃ (H0 : Hp) (o c v dx : Addr) (n : Nat) (par : Nat → Nat) (A : Fn), vs = [.ref o, .ref c, .ref v] ∧ Same H0 H ∧ H0 o = none ∧ H o = some (.ins CO dx []) ∧ H0 c = some (.tup (chV n par)) ∧ AT H0 v n A ∧ Ch n par ∧ Arr n par A ∧
  ∀ H' pl dl, OffAt CO H0 H' o c v pl dl [] 0 → Q .non H'
def spArrP (CO : Addr) : Sp := fun vs H Q _ => ∃ (G : Hp) (o c v pl dl : Addr) (ps : Past) (ds : Nat), vs = [.ref o] ∧ OffAt CO G H o c v pl dl ps ds ∧ Q (.ref v) H
def spPeopleP (CO : Addr) : Sp := fun vs H Q _ => ∃ (G : Hp) (o c v pl dl : Addr) (ps : Past) (ds n : Nat) (A : Fn), vs = [.ref o] ∧ OffAt CO G H o c v pl dl ps ds ∧ AT H v n A ∧ n ≤ 20 ∧ Inj n A ∧ ∀ H' l xs, Same H H' → H l = none → H' l = some (.lst (nV xs)) → PeopleOf n A xs → Q (.ref l) H'
def spHead (CO : Addr) : Sp := fun vs H Q _ => ∃ (G : Hp) (o c v pl dl : Addr) (ps : Past) (ds n : Nat) (A : Fn), vs = [.ref o] ∧ OffAt CO G H o c v pl dl ps ds ∧ AT H v n A ∧ 0 < n ∧ Q (oV (A 0)) H
def spLen (CO : Addr) : Sp := fun vs H Q _ => ∃ (G : Hp) (o c v pl dl : Addr) (ps : Past) (ds : Nat), vs = [.ref o] ∧ OffAt CO G H o c v pl dl ps ds ∧ Q (.int (ps.length : Int)) H
def spPut (CO : Addr) : Sp := fun vs H Q _ => ∃ (G : Hp) (o c v v' st pl dl : Addr) (ps : Past) (ds : Nat) (xs : List V), vs = [.ref o, .ref v', .ref st] ∧ OffAt CO G H o c v pl dl ps ds ∧ H st = some (.lst xs) ∧ st ≠ dl ∧ st ≠ pl ∧ xs.length = 1 ∧ ds ≤ 1000 ∧ ps.length ≤ 1000 ∧
  ∀ H' t, OffAt CO G H' o c v' pl dl (ps ++ [(t, v, ds)]) (ds + 1) → Q (.ref v') H'
section
variable {P : Program} {w : World} {K : PySem.W.Frag} {mg : Str → Option Value} {base : Heap} {CT CU CO : Addr}
abbrev s_seniority_fault : Stmt := top 46
abbrev N_seniority_fault : List Str := ["people", "count", "before", "index", "person"]
theorem sc_seniority_fault : FnScope N_seniority_fault ["people", "count"] (defScope s_seniority_fault) := ⟨rfl, rfl, rfl, by decide +kernel, rfl, by decide +kernel, by decide +kernel⟩
theorem k_seniority_fault (T : Txt K mg CT CU CO) (D : Dg K mg "seniority_fault" s_seniority_fault) (c_is_whole : Cal P w K mg base 1 "is_whole" ["value"] spWhole) : Cal P w K mg base 2 "seniority_fault" ["people", "count"] spSen := by
  refine D.ok sc_seniority_fault (fun _ _ _ _ _ _ us hl => match us, hl with | [_, _], _ => rfl) (fun vs H Q E h => ?_) (fun f cdv A outer s H vs Q E hr h => ?_)
  · obtain ⟨l, xs, rfl, _⟩ := h
    rfl
  · obtain ⟨l, xs, rfl, hl, so, q⟩ := h
    refine ⟨_, (pss_cons (ps_if (PW.pt (pw_or (pt_not (pt_val (pe_callB call_isi (by rfl) T.isinstance (by decide +kernel) (pa_cons (pv 0) (pa_cons (pe_bltn (v := .ty "list") (by rfl) T.list (by decide +kernel) rfl) pa_nil))))) (pw_or1 (pt_cmpR op_ne (pe_callB call_len_seq (by rfl) T.len (by decide +kernel) (pa_cons (pv 0) pa_nil)) (pv 1) (nomark _)))))
    pss_never pss_nil)
  (pss_cons (ps_set (i := 2) sc_seniority_fault.nd rfl (Or.inl rfl) (pe_un un_neg pe_int))
  (pss_cons (ps_for PassesOwn.never rfl (pi_enum (by rfl) T.enumerate (pa_cons (pv 0) pa_nil)) (pg_tup (by rfl) (pgs_cons (pg_name (i := 3) sc_seniority_fault.nd rfl (Or.inl rfl)) (pgs_cons (pg_name (i := 4) sc_seniority_fault.nd rfl (Or.inl rfl)) pgs_nil)))
    (pss_cons (ps_if (PW.pt (pw_or (pt_not (pt_val (pe_cal c_is_whole (hr.mono (by decide)) (by rfl) (pa_cons (pv 4) pa_nil)))) (pw_or1 (pt_cmpR op_le (pv 4) (pv 2) (nomark _)))))
    pss_never pss_nil)
  (pss_one (ps_set (i := 2) sc_seniority_fault.nd rfl (Or.inl rfl) (pv 4)))))
  (pss_one (ps_ret pe_non))))), ?_⟩
    refine ⟨_, rfl, _, _, _, _, true, rfl, .ty _, .base (.lst hl), kit_ty (by decide +kernel), true, rfl, ?_⟩
    refine iteF ?_
    refine ⟨_, rfl, l, _, rfl, .inl (SqL.of hl), _, rfl, rfl, _, rfl, ?_⟩
    rw [nV_len]
    refine ifF (nI_f rfl) ?_
    refine ⟨_, rfl, ?_⟩
    refine ⟨_, rfl, l, _, rfl, SqL.of hl, for_it walk_enum (fun i σ H' => ∃ (b : Int) (x y : Option V), σ = [some (.ref l), some (.int (xs.length : Int)), some (.int b), x, y] ∧ Same H H' ∧ ∀ (h : i < xs.length), b < (xs[i] : Int))
      ⟨-1, _, _, rfl, Same.refl H, fun h => by omega⟩ (fun i σ H' _ ⟨_, _, _, _, sm, _⟩ => SqL.of (sm _ _ hl)) ?_ ?_⟩
    · rintro i z σ H1 H2 hi ⟨b, x, y, rfl, sm, hb⟩ hy
      obtain ⟨t, y1, rfl, nT, rfl, e2⟩ := yen hy
      rw [nV_len] at hi
      have hg : xs[i]? = some xs[i] := List.getElem?_eq_getElem hi
      rw [nV_get hg] at e2
      cases e2
      have hb := hb hi
      refine ⟨_, _, rfl, SqT.of upd_same, rfl, _, _, rfl, _, _, rfl, rfl, ?_⟩
      refine ⟨_, rfl, _, rfl, true, rfl, ?_⟩
      refine iteF ?_
      refine ⟨_, rfl, _, rfl, _, _, rfl, rfl, _, rfl, ?_⟩
      refine ifF (decide_eq_false (by omega)) ?_
      refine ⟨_, rfl, _, _, _, rfl, sm.up nT, fun h => ?_⟩
      have := List.pairwise_iff_getElem.mp so i (i + 1) hi h (by omega)
      omega
    · rintro σ H1 ⟨b, x, y, rfl, sm, _⟩
      exact q H1 sm
abbrev s_Office_init : Stmt := inClass (top 47) 1
abbrev N_Office_init : List Str := ["self", "chart", "arrangement"]
theorem sc_Office_init : FnScope N_Office_init ["self", "chart", "arrangement"] (defScope s_Office_init) := ⟨rfl, rfl, rfl, by decide +kernel, rfl, by decide +kernel, by decide +kernel⟩
theorem k_Office (T : Txt K mg CT CU CO) (D : Di K mg "Office" CO "Office.__init__" s_Office_init) (c_require_chart : Cal P w K mg base 3 "require_chart" ["chart"] spChart) (c_require_arrangement : Cal P w K mg base 4 "require_arrangement" ["chart", "arrangement"] spArr) :
    CalI P w K mg base 5 "Office" CO ["self", "chart", "arrangement"] (spOffice CO) := by
  refine D.ok sc_Office_init (fun _ _ _ _ _ _ us hl => match us, hl with | [_, _, _], _ => rfl) (fun vs H Q E h => ?_) (fun f cdv A outer s H vs Q E hr h => ?_)
  · obtain ⟨H0, o, c, v, dx, n, par, A, rfl, _⟩ := h
    rfl
  · obtain ⟨H0, o, c, v, dx, n, par, A, rfl, s0, no, ho, hc, hv, ch, ar, q⟩ := h
    refine ⟨_, (pss_cons (ps_expr (pe_cal c_require_chart (hr.mono (by decide)) (by rfl) (pa_cons (pv 1) pa_nil)))
  (pss_cons (ps_expr (pe_cal c_require_arrangement (hr.mono (by decide)) (by rfl) (pa_cons (pv 1) (pa_cons (pv 2) pa_nil))))
  (pss_cons (ps_fld (pv 0) (pv 1) rfl)
  (pss_cons (ps_fld (pv 0) (pv 2) rfl)
  (pss_cons (ps_fld (pv 0) (pe_lst pa_nil) rfl)
  (pss_one (ps_fld (pv 0) (pe_lst pa_nil) rfl))))))), ?_⟩
    refine ⟨_, rfl, c, n, par, rfl, s0 _ _ hc, ch, fun H1 s1 => ?_⟩
    have s01 := s0.trans s1
    refine ⟨_, rfl, _, rfl, c, v, n, par, A, rfl, s01 _ _ hc, hv.mono s01, ch, ar, fun H2 s2 => ?_⟩
    have s02 := s01.trans s2
    have ho2 := s2 _ _ (s1 _ _ ho)
    refine ⟨_, rfl, _, rfl, o, CO, dx, _, rfl, ho2, T.clO, T.oAbove, by show 0 < 1000; decide, ?_⟩
    refine ⟨_, rfl, _, rfl, o, CO, dx, ofF1 c, rfl, upd_same, T.clO, T.oNow, by show 1 < 1000; decide, ?_⟩
    rw [upd_upd, of_p2]
    refine ⟨Nat.zero_le _, fun pl npl => ?_⟩
    have opl : o ≠ pl := ne_of_none upd_same npl
    refine ⟨_, rfl, o, CO, dx, ofF2 c v, rfl, (upd_ne opl).trans upd_same, T.clO, T.oPast, by show 2 < 1000; decide, ?_⟩
    rw [of_p3]
    refine ⟨Nat.zero_le _, fun dl ndl => ?_⟩
    have odl : o ≠ dl := ne_of_none upd_same ndl
    refine ⟨_, rfl, o, CO, dx, ofF3 c v pl, rfl, (upd_ne odl).trans upd_same, T.clO, T.oDone, by show 3 < 1000; decide, ?_⟩
    rw [of_p4]
    have sA : Same H0 (upd H2 o (.ins CO dx (ofF2 c v))) := s02.put no
    have npl0 := sA.nw npl
    have sB := (sA.put (o := .lst []) npl0).put (o := .ins CO dx (ofF3 c v pl)) no
    have ndl0 := sB.nw ndl
    have ppd : pl ≠ dl := ne_of_none ((upd_ne (o := .ins CO dx (ofF3 c v pl)) opl.symm).trans upd_same) ndl
    refine q _ pl dl ⟨((sB.put ndl0).put no), no, npl0, ndl0, ppd, ⟨dx, upd_same⟩, ?_, (fun q h => by simp at h), [], ?_, rfl⟩
    · rw [upd_ne opl.symm, upd_ne ppd, upd_ne opl.symm, upd_same]
      rfl
    · rw [upd_ne odl.symm, upd_same]
abbrev s_Office_arrangement : Stmt := inClass (top 47) 5
abbrev N_Office_arrangement : List Str := ["self"]
theorem sc_Office_arrangement : FnScope N_Office_arrangement ["self"] (defScope s_Office_arrangement) := ⟨rfl, rfl, rfl, by decide +kernel, rfl, by decide +kernel, by decide +kernel⟩
theorem k_Office_arrangement (T : Txt K mg CT CU CO) (D : Dp' K CO "arrangement" "Office.arrangement" s_Office_arrangement) : CalP P w K mg base 1 CO "arrangement" (spArrP CO) := by
  refine D.ok sc_Office_arrangement (fun _ _ _ _ _ _ us hl => match us, hl with | [_], _ => rfl) (fun vs H Q E h => ?_) (fun f cdv A outer s H vs Q E hr h => ?_)
  · obtain ⟨G, o, c, v, pl, dl, ps, ds, rfl, _⟩ := h
    rfl
  · obtain ⟨G, o, c, v, pl, dl, ps, ds, rfl, a, q⟩ := h
    refine ⟨_, (pss_one (ps_ret (pe_fld (pv 0) rfl))), ?_⟩
    obtain ⟨dx, e⟩ := a.at_
    exact ⟨_, rfl, o, CO, dx, _, _, rfl, e, T.clO, T.oNow, of_gn, q⟩
abbrev s_Office_head : Stmt := inClass (top 47) 7
abbrev N_Office_head : List Str := ["self"]
theorem sc_Office_head : FnScope N_Office_head ["self"] (defScope s_Office_head) := ⟨rfl, rfl, rfl, by decide +kernel, rfl, by decide +kernel, by decide +kernel⟩
theorem k_Office_head (T : Txt K mg CT CU CO) (D : Dp' K CO "head" "Office.head" s_Office_head) : CalP P w K mg base 1 CO "head" (spHead CO) := by
  refine D.ok sc_Office_head (fun _ _ _ _ _ _ us hl => match us, hl with | [_], _ => rfl) (fun vs H Q E h => ?_) (fun f cdv A outer s H vs Q E hr h => ?_)
  · obtain ⟨G, o, c, v, pl, dl, ps, ds, n, A, rfl, _⟩ := h
    rfl
  · obtain ⟨G, o, c, v, pl, dl, ps, ds, n, A, rfl, a, hv, hn, q⟩ := h
    refine ⟨_, (pss_one (ps_ret (pe_ix ix_tup (pe_fld (pv 0) rfl) pe_int (fun _ _ => rfl)))), ?_⟩
    obtain ⟨dx, e⟩ := a.at_
    exact ⟨_, rfl, o, CO, dx, _, _, rfl, e, T.clO, T.oNow, of_gn, _, _, _, _, rfl, rfl, hv.sq, at_ar (k := 0) hn, q⟩
abbrev s_Office_people : Stmt := inClass (top 47) 6
abbrev N_Office_people : List Str := ["self", "person"]
theorem sc_Office_people : FnScope N_Office_people ["self"] (defScope s_Office_people) := ⟨rfl, rfl, rfl, by decide +kernel, rfl, by decide +kernel, by decide +kernel⟩
theorem k_Office_people (T : Txt K mg CT CU CO) (D : Dp' K CO "people" "Office.people" s_Office_people) : CalP P w K mg base 1 CO "people" (spPeopleP CO) := by
  refine D.ok sc_Office_people (fun _ _ _ _ _ _ us hl => match us, hl with | [_], _ => rfl) (fun vs H Q E h => ?_) (fun f cdv A outer s H vs Q E hr h => ?_)
  · obtain ⟨G, o, c, v, pl, dl, ps, ds, n, A, rfl, _⟩ := h
    rfl
  · obtain ⟨G, o, c, v, pl, dl, ps, ds, n, A, rfl, a, hv, hn, inj, q⟩ := h
    refine ⟨_, (pss_one (ps_ret (pe_callB cr_sortedI (by rfl) T.sorted (by decide +kernel) (pa_cons (pe_lc (own := [("person", 1)])  (by rfl) sc_Office_people.nd (pi_tup (pe_fld (pv 0) rfl)) (blkOk_by (N := N_Office_people) (sc := defScope s_Office_people) (by decide +kernel)) (fun _ _ _ _ _ => (pg_name (i := 1) sc_Office_people.nd rfl (Or.inl rfl))) (fun _ _ _ _ _ => (pts_one (pt_cmpR op_notN (pv 1) pe_non (nomark _)))) (fun _ _ _ _ _ => (pv 1))) pa_nil)))), ?_⟩
    obtain ⟨dx, e⟩ := a.at_
    refine ⟨_, rfl, o, CO, dx, _, _, rfl, e, T.clO, T.oNow, of_gn, v, rfl, ⟨_, hv.sq⟩, fun d nd => lc_it walk_tup (fun i H' => Same H H' ∧ H' d = some (.lst (nV ((List.range i).filterMap A)))) ⟨(Same.refl H).put nd, upd_same⟩ (fun i H' _ h => (hv.mono h.1).sq) ?_ ?_⟩
    · rintro i z H1 H2 hi ⟨sm, hd⟩ ⟨rfl, ez⟩
      rw [arV_len] at hi
      rw [arV_get hi] at ez
      cases ez
      refine ⟨rfl, _, rfl, rfl, _, rfl, ?_⟩
      cases e1 : A i with
      | none =>
        refine ifF nn_non ?_
        refine ⟨sm, ?_⟩
        rw [hd, List.range_succ, List.filterMap_append]
        simp [e1]
      | some x =>
        refine ifT nn_int ?_
        refine ⟨_, rfl, _, hd, ?_, sm.put nd, ?_⟩
        · rw [nV_len]
          have := List.length_filterMap_le A (List.range i)
          rw [List.length_range] at this
          exact sl20 (by omega)
        · rw [upd_same, List.range_succ, List.filterMap_append, nV_app]
          simp only [List.filterMap_cons, e1, List.filterMap_nil, nV_one]
          rfl
    · rintro H1 ⟨sm, hd⟩
      rw [arV_len] at hd
      refine ⟨d, ((List.range n).filterMap A).map fun a => ((a : Nat) : Int), rfl, SqL.of (by rw [← nV_int]; exact hd), fun ns' z pm so nz => ?_⟩
      obtain ⟨S, rfl, pS, sS⟩ := sort_nat pm so
      rw [← nV_int]
      have ndA : ((List.range n).filterMap A).Nodup := by
        refine List.Pairwise.filterMap (R := fun i j => i < n ∧ j < n ∧ i ≠ j) A (fun i j h a ha b hb e => ?_) ?_
        · obtain ⟨h1, h2, h3⟩ := h
          subst e
          exact h3 (inj i j a h1 h2 ha hb)
        · refine List.pairwise_iff_getElem.mpr fun i j hi hj hij => ?_
          rw [List.length_range] at hi hj
          simp only [List.getElem_range]
          omega
      refine q _ z S (sm.up nz) (sm.nw nz) upd_same ⟨lt_of_le_nd sS (pS.nodup_iff.mpr ndA), fun y => ?_⟩
      rw [pS.mem_iff, List.mem_filterMap]
      constructor
      · rintro ⟨k, hk, ek⟩
        exact ⟨k, List.mem_range.mp hk, ek⟩
      · rintro ⟨k, hk, ek⟩
        exact ⟨k, List.mem_range.mpr hk, ek⟩
abbrev s_Office_len : Stmt := inClass (top 47) 21
abbrev N_Office_len : List Str := ["self"]
theorem sc_Office_len : FnScope N_Office_len ["self"] (defScope s_Office_len) := ⟨rfl, rfl, rfl, by decide +kernel, rfl, by decide +kernel, by decide +kernel⟩
theorem k_Office_len (T : Txt K mg CT CU CO) (D : Dm K CO "__len__" "Office.__len__" s_Office_len) : CalM P w K mg base 1 CO "__len__" ["self"] (spLen CO) := by
  refine D.ok sc_Office_len (fun _ _ _ _ _ _ us hl => match us, hl with | [_], _ => rfl) (fun vs H Q E h => ?_) (fun f cdv A outer s H vs Q E hr h => ?_)
  · obtain ⟨G, o, c, v, pl, dl, ps, ds, rfl, _⟩ := h
    rfl
  · obtain ⟨G, o, c, v, pl, dl, ps, ds, rfl, a, q⟩ := h
    refine ⟨_, (pss_one (ps_ret (pe_callB call_len_seq (by rfl) T.len (by decide +kernel) (pa_cons (pe_fld (pv 0) rfl) pa_nil)))), ?_⟩
    obtain ⟨dx, e⟩ := a.at_
    refine ⟨_, rfl, o, CO, dx, _, _, rfl, e, T.clO, T.oPast, of_gp, pl, _, rfl, .inl (SqL.of a.pst), ?_⟩
    rw [List.length_map]
    exact q
end
end K89
set_option Elab.async false
set_option linter.all false
set_option maxRecDepth 100000
set_option maxHeartbeats 1000000
namespace K89
open PySem PySem.Spec PyProof.Rows L2

def spOLeaveB (CO : Addr) : Sp := fun vs H Q _ => ∃ (G : Hp) (o p c v pl dl : Addr) (ps : Past) (ds n q x : Nat) (par : Nat → Nat) (A : Fn), vs = [.ref o, .ref p] ∧ H p = some (.tup [.int (x : Int)]) ∧ OffAt CO G H o c v pl dl ps ds ∧ H c = some (.tup (chV n par)) ∧ AT H v n A ∧ Ch n par ∧ Arr n par A ∧ q < n ∧ A q = some x ∧ ds ≤ 1000 ∧ ps.length ≤ 1000 ∧
  ∀ A' e H' u t, Goes n par (put1 A q none) q A' e → OffAt CO G H' o c u pl dl (ps ++ [(t, v, ds)]) (ds + 1) → AT H' u n A' → Q (.ref u) H'
def spOLeave (CO : Addr) : Sp := fun vs H Q _ => ∃ (G : Hp) (o c v pl dl : Addr) (ps : Past) (ds n q x : Nat) (par : Nat → Nat) (A : Fn), vs = [.ref o, .int (x : Int)] ∧ OffAt CO G H o c v pl dl ps ds ∧ H c = some (.tup (chV n par)) ∧ AT H v n A ∧ Ch n par ∧ Arr n par A ∧ q < n ∧ A q = some x ∧ ds ≤ 1000 ∧ ps.length ≤ 1000 ∧
  ∀ A' e H' u t, Goes n par (put1 A q none) q A' e → OffAt CO G H' o c u pl dl (ps ++ [(t, v, ds)]) (ds + 1) → AT H' u n A' → Q (.ref u) H'
def spAdmit (CO : Addr) : Sp := fun vs H Q _ => ∃ (G : Hp) (o c v pl dl : Addr) (ps : Past) (ds n p x : Nat) (par : Nat → Nat) (A B : Fn), vs = [.ref o, .int (x : Int), .int (p : Int)] ∧ OffAt CO G H o c v pl dl ps ds ∧ H c = some (.tup (chV n par)) ∧ AT H v n A ∧ Ch n par ∧ Left n par B x A p ∧ ds ≤ 1000 ∧ ps.length ≤ 1000 ∧
  ∀ H' u t, OffAt CO G H' o c u pl dl (ps ++ [(t, v, ds)]) (ds + 1) → AT H' u n B → Q (.ref u) H'
def spUndo (CO : Addr) : Sp := fun vs H Q _ => ∃ (G : Hp) (o c v pl dl t v0 : Addr) (ps : Past) (ds d0 : Nat), vs = [.ref o] ∧ OffAt CO G H o c v pl dl (ps ++ [(t, v0, d0)]) ds ∧
  ∀ H' dl' ds', OffAt CO G H' o c v0 pl dl' ps ds' → ds' ≤ ds → Q .non H'
section
variable {P : Program} {w : World} {K : PySem.W.Frag} {mg : Str → Option Value} {base : Heap} {CT CU CO : Addr}
abbrev s_Office_put : Stmt := inClass (top 47) 8
abbrev N_Office_put : List Str := ["self", "arrangement", "steps"]
theorem sc_Office_put : FnScope N_Office_put ["self", "arrangement", "steps"] (defScope s_Office_put) := ⟨rfl, rfl, rfl, by decide +kernel, rfl, by decide +kernel, by decide +kernel⟩
theorem k_Office_put (T : Txt K mg CT CU CO) (D : Dm K CO "put" "Office.put" s_Office_put) : CalM P w K mg base 1 CO "put" ["self", "arrangement", "steps"] (spPut CO) := by
  refine D.ok sc_Office_put (fun _ _ _ _ _ _ us hl => match us, hl with | [_, _, _], _ => rfl) (fun vs H Q E h => ?_) (fun f cdv A outer s H vs Q E hr h => ?_)
  · obtain ⟨G, o, c, v, v', st, pl, dl, ps, ds, xs, rfl, _⟩ := h
    rfl
  · obtain ⟨G, o, c, v, v', st, pl, dl, ps, ds, xs, rfl, a, hst, ntd, ntp, hx, hds, hps, q⟩ := h
    refine ⟨_, (pss_cons (ps_expr (pe_bm PySem.F.plainAttrs_list PySem.F.slot_list_append PySem.F.type_list_append mt_append (pe_fld (pv 0) rfl) (pa_cons (pe_tup (pa_cons (pe_fld (pv 0) rfl) (pa_cons (pe_callB call_len_seq (by rfl) T.len (by decide +kernel) (pa_cons (pe_fld (pv 0) rfl) pa_nil)) pa_nil))) pa_nil)))
  (pss_cons (ps_fld (pv 0) (pv 1) rfl)
  (pss_cons (ps_expr (pe_bm PySem.F.plainAttrs_list PySem.F.slot_list_extend PySem.F.type_list_extend mt_extend (pe_fld (pv 0) rfl) (pa_cons (pv 2) pa_nil)))
  (pss_one (ps_ret (pv 1)))))), ?_⟩
    obtain ⟨dx, e⟩ := a.at_
    obtain ⟨ys, hd, hyl⟩ := a.don
    obtain ⟨op, od⟩ := a.opl'
    have ost : st ≠ o := ne_of hst e (fun z => nomatch z)
    have big : 2000 ≤ sizeLine := by decide
    refine ⟨_, rfl, o, CO, dx, _, _, rfl, e, T.clO, T.oPast, of_gp, .inl ⟨rfl, _, SqL.of a.pst⟩, _, rfl, o, CO, dx, _, _, rfl, e, T.clO, T.oNow, of_gn, _, rfl, o, CO, dx, _, _, rfl, e, T.clO, T.oDone, of_gd, dl, _, rfl, .inl (SqL.of hd), by show 2 ≤ sizeLine; decide, fun t nt => ?_⟩
    rw [hyl]
    have pt : pl ≠ t := ne_of_none a.pst nt
    have ot : o ≠ t := ne_of_none e nt
    have dt : dl ≠ t := ne_of_none hd nt
    have stt : st ≠ t := ne_of_none hst nt
    refine ⟨_, _, _, rfl, rfl, (upd_ne pt).trans a.pst, ?_, ?_⟩
    · rw [List.length_map]
      omega
    refine ⟨_, rfl, _, rfl, o, CO, dx, _, rfl, (upd_ne op).trans ((upd_ne ot).trans e), T.clO, T.oNow, by show 4 < 1000; decide, ?_⟩
    rw [of_now]
    refine ⟨_, rfl, o, CO, dx, _, _, rfl, upd_same, T.clO, T.oDone, of_gd, .inl ⟨rfl, _, SqL.of ((upd_ne od.symm).trans ((upd_ne a.opl.symm).trans ((upd_ne dt).trans hd)))⟩, _, rfl, _, _, _, _, rfl, rfl, (upd_ne od.symm).trans ((upd_ne a.opl.symm).trans ((upd_ne dt).trans hd)), (upd_ne ost).trans ((upd_ne ntp).trans ((upd_ne stt).trans hst)), ?_, ?_⟩
    · omega
    refine ⟨_, rfl, q _ t ⟨?_, a.no, a.np, a.nd, a.opl, ⟨dx, (upd_ne od).trans upd_same⟩, ?_, fun y hy => ?_, _, upd_same, by rw [List.length_append, hyl, hx]⟩⟩
    · exact (((a.sm.up nt).put a.np).put a.no).put a.nd
    · rw [upd_ne a.opl, upd_ne op.symm, upd_same, List.map_append]
      rfl
    · rcases List.mem_append.mp hy with hy | hy
      · have h1 := a.ent y hy
        have y1 : y.1 ≠ t := ne_of_none h1 nt
        have y2 : y.1 ≠ pl := ne_of h1 a.pst (fun z => nomatch z)
        have y3 : y.1 ≠ o := ne_of h1 e (fun z => nomatch z)
        have y4 : y.1 ≠ dl := ne_of h1 hd (fun z => nomatch z)
        exact (upd_ne y4).trans ((upd_ne y3).trans ((upd_ne y2).trans ((upd_ne y1).trans h1)))
      · rw [List.mem_singleton.mp hy]
        exact (upd_ne dt.symm).trans ((upd_ne ot.symm).trans ((upd_ne pt.symm).trans upd_same))
abbrev s_Office_undo : Stmt := inClass (top 47) 12
abbrev N_Office_undo : List Str := ["self", "count"]
theorem sc_Office_undo : FnScope N_Office_undo ["self"] (defScope s_Office_undo) := ⟨rfl, rfl, rfl, by decide +kernel, rfl, by decide +kernel, by decide +kernel⟩
theorem k_Office_undo (T : Txt K mg CT CU CO) (D : Dm K CO "undo" "Office.undo" s_Office_undo) : CalM P w K mg base 1 CO "undo" ["self"] (spUndo CO) := by
  refine D.ok sc_Office_undo (fun _ _ _ _ _ _ us hl => match us, hl with | [_], _ => rfl) (fun vs H Q E h => ?_) (fun f cdv A outer s H vs Q E hr h => ?_)
  · obtain ⟨G, o, c, v, pl, dl, t, v0, ps, ds, d0, rfl, _⟩ := h
    rfl
  · obtain ⟨G, o, c, v, pl, dl, t, v0, ps, ds, d0, rfl, a, q⟩ := h
    refine ⟨_, (pss_cons (ps_if (pt_cmpR (op_eqNil hr.units0) (pe_fld (pv 0) rfl) (pe_lst pa_nil) (nomark _))
    pss_never pss_nil)
  (pss_cons (ps_asg (pe_bm0 PySem.F.plainAttrs_list PySem.F.slot_list_pop PySem.F.type_list_pop mt_pop (pe_fld (pv 0) rfl)) (pg_tup (by rfl) (pgs_cons (pg_fld (pv 0)) (pgs_cons (pg_name (i := 1) sc_Office_undo.nd rfl (Or.inl rfl)) pgs_nil))))
  (pss_one (ps_fld (pv 0) (pe_slice sl_list (pe_fld (pv 0) rfl) po_none (po_some (pv 1))) rfl)))), ?_⟩
    obtain ⟨dx, e⟩ := a.at_
    obtain ⟨ys, hd, hyl⟩ := a.don
    obtain ⟨op, od⟩ := a.opl'
    refine ⟨_, rfl, o, CO, dx, _, _, rfl, e, T.clO, T.oPast, of_gp, Nat.zero_le _, fun u nu => ?_⟩
    have pu : pl ≠ u := ne_of_none a.pst nu
    have ou : o ≠ u := ne_of_none e nu
    have du : dl ≠ u := ne_of_none hd nu
    refine ⟨_, _, _, rfl, rfl, SqL.of ((upd_ne pu).trans a.pst), SqL.of upd_same, _, rfl, ?_⟩
    refine ifF (by simp) ?_
    refine ⟨_, rfl, o, CO, dx, _, _, rfl, (upd_ne ou).trans e, T.clO, T.oPast, of_gp, .inl ⟨rfl, _, SqL.of ((upd_ne pu).trans a.pst)⟩, pl, _, V.ref t, rfl, rfl, (upd_ne pu).trans a.pst, ?_, ?_⟩
    · simp
    have ht := a.ent (t, v0, d0) (by simp)
    have tu : t ≠ u := ne_of_none ht nu
    have tp : t ≠ pl := ne_of ht a.pst (fun z => nomatch z)
    refine ⟨_, _, rfl, SqT.of ((upd_ne tp).trans ((upd_ne tu).trans ht)), rfl, _, _, rfl, _, rfl, o, CO, dx, _, rfl, (upd_ne op).trans ((upd_ne ou).trans e), T.clO, T.oNow, by show 4 < 1000; decide, _, _, rfl, rfl, ?_⟩
    rw [of_now]
    refine ⟨_, rfl, o, CO, dx, _, _, rfl, upd_same, T.clO, T.oDone, of_gd, _, rfl, _, rfl, dl, _, rfl, SqL.of ((upd_ne od.symm).trans ((upd_ne a.opl.symm).trans ((upd_ne du).trans hd))), fun d' nd' => ?_⟩
    have od' : o ≠ d' := ne_of_none upd_same nd'
    have pd' : pl ≠ d' := ne_of_none ((upd_ne op.symm).trans upd_same) nd'
    refine ⟨_, rfl, o, CO, dx, _, rfl, (upd_ne od').trans upd_same, T.clO, T.oDone, by show 4 < 1000; decide, ?_⟩
    rw [of_done]
    have sA := ((a.sm.up (o := .lst []) nu).put (o := .lst ((ps ++ [(t, v0, d0)]).map fun q => V.ref q.1).dropLast) a.np).put (o := .ins CO dx (ofF c v0 pl dl)) a.no
    have nd0 := sA.nw nd'
    refine q _ d' _ ⟨(sA.put nd0).put a.no, a.no, a.np, nd0, pd', ⟨dx, upd_same⟩, ?_, fun y hy => ?_, _, (upd_ne od'.symm).trans upd_same, rfl⟩ ?_
    · rw [upd_ne op.symm, upd_ne pd', upd_ne op.symm, upd_same, List.map_append, List.map_cons, List.map_nil, List.dropLast_concat]
    · have h1 := a.ent y (List.mem_append_left _ hy)
      have y1 : y.1 ≠ u := ne_of_none h1 nu
      have y2 : y.1 ≠ pl := ne_of h1 a.pst (fun z => nomatch z)
      have y3 : y.1 ≠ o := ne_of h1 e (fun z => nomatch z)
      have h2 : upd (upd (upd H u (.lst [])) pl (.lst ((ps ++ [(t, v0, d0)]).map fun q => V.ref q.1).dropLast)) o (.ins CO dx (ofF c v0 pl dl)) y.1 = some (.tup [.ref y.2.1, .int (y.2.2 : Int)]) := (upd_ne y3).trans ((upd_ne y2).trans ((upd_ne y1).trans h1))
      have y4 : y.1 ≠ d' := ne_of_none h2 nd'
      exact (upd_ne y3).trans ((upd_ne y4).trans h2)
    · exact Nat.le_trans (cutV_length ys none (some (d0 : Int))) (Nat.le_of_eq hyl)
abbrev s_Office_admit : Stmt := inClass (top 47) 10
abbrev N_Office_admit : List Str := ["self", "person", "post"]
theorem sc_Office_admit : FnScope N_Office_admit ["self", "person", "post"] (defScope s_Office_admit) := ⟨rfl, rfl, rfl, by decide +kernel, rfl, by decide +kernel, by decide +kernel⟩
theorem k_Office_admit (T : Txt K mg CT CU CO) (D : Dm K CO "admit" "Office.admit" s_Office_admit) (c_join : Cal P w K mg base 5 "join" ["chart", "arrangement", "person", "post"] spJoin) (cm_put : CalM P w K mg base 1 CO "put" ["self", "arrangement", "steps"] (spPut CO)) :
    CalM P w K mg base 6 CO "admit" ["self", "person", "post"] (spAdmit CO) := by
  refine D.ok sc_Office_admit (fun _ _ _ _ _ _ us hl => match us, hl with | [_, _, _], _ => rfl) (fun vs H Q E h => ?_) (fun f cdv A outer s H vs Q E hr h => ?_)
  · obtain ⟨G, o, c, v, pl, dl, ps, ds, n, p, x, par, A, B, rfl, _⟩ := h
    rfl
  · obtain ⟨G, o, c, v, pl, dl, ps, ds, n, p, x, par, A, B, rfl, a, hc, hv, ch, lf, hds, hps, q⟩ := h
    refine ⟨_, (pss_one (ps_ret (pe_mth cm_put (hr.mono (by decide)) (pv 0) (pa_cons (pe_cal c_join (hr.mono (by decide)) (by rfl) (pa_cons (pe_fld (pv 0) rfl) (pa_cons (pe_fld (pv 0) rfl) (pa_cons (pv 1) (pa_cons (pv 2) pa_nil))))) (pa_cons (pe_lst (pa_cons (pe_tup (pa_cons pe_str (pa_cons (pv 1) (pa_cons (pv 2) pa_nil)))) pa_nil)) pa_nil))))), ?_⟩
    obtain ⟨dx, e⟩ := a.at_
    refine ⟨_, rfl, o, dx, _, rfl, e, of_no (by decide +kernel) (by decide +kernel) (by decide +kernel) (by decide +kernel), _, rfl, o, CO, dx, _, _, rfl, e, T.clO, T.oAbove, of_ga, _, rfl, o, CO, dx, _, _, rfl, e, T.clO, T.oNow, of_gn, _, rfl, _, rfl, c, v, n, p, x, par, A, B, rfl, hc, hv, ch, lf, fun H1 u s1 nu hu => ?_⟩
    refine ⟨_, rfl, _, rfl, by show 3 ≤ sizeLine; decide, fun t1 nt1 => ⟨by show 1 ≤ sizeLine; decide, fun st nst => ?_⟩⟩
    have s2 := (s1.up (o := .tup [.str "join", .int (x : Int), .int (p : Int)]) nt1).up (o := .lst [.ref t1]) nst
    have a2 := a.mono s2
    have hu2 : AT _ u n B := (hu.mono (Same.up (o := .tup [.str "join", .int (x : Int), .int (p : Int)]) (Same.refl H1) nt1)).mono (Same.up (o := .lst [.ref t1]) (Same.refl _) nst)
    obtain ⟨xs, hd, _⟩ := a.don
    have un : u ∉ [o, pl, dl] := by
      intro hm
      simp at hm
      rcases hm with rfl | rfl | rfl
      · rw [e] at nu; cases nu
      · rw [a.pst] at nu; cases nu
      · rw [hd] at nu; cases nu
    obtain ⟨ob, hob, hu3⟩ := hu2
    have s1b := s1.up (o := .tup [.str "join", .int (x : Int), .int (p : Int)]) nt1
    refine ⟨_, o, c, v, u, st, pl, dl, ps, ds, _, rfl, a2.drop, upd_same, (ne_of_none (s1b _ _ hd) nst).symm, (ne_of_none (s1b _ _ a.pst) nst).symm, rfl, hds, hps, fun H' t a3 => ?_⟩
    refine q H' u t (a3.re (a2.in_drop.trans a3.sm) a.no a.np a.nd) ⟨ob, hob, a3.sm _ _ ((dropL_ne un).trans hu3)⟩
abbrev s_Office_leave : Stmt := inClass (top 47) 9
abbrev N_Office_leave : List Str := ["self", "people", "arrangement", "person"]
theorem sc_Office_leave : FnScope N_Office_leave ["self", "people"] (defScope s_Office_leave) := ⟨rfl, rfl, rfl, by decide +kernel, rfl, by decide +kernel, by decide +kernel⟩
theorem k_Office_leave (T : Txt K mg CT CU CO) (D : Dm K CO "leave" "Office.leave" s_Office_leave) (c_leave : CalR P w K mg base 5 "leave_arrangements" spLeave) (cm_put : CalM P w K mg base 1 CO "put" ["self", "arrangement", "steps"] (spPut CO)) :
    CalMR P w K mg base 6 CO "leave" (spOLeave CO) := by
  refine CalMR.imp (sp := Star 1 (spOLeaveB CO)) (D.star (ps := ["self"]) (pv := "people") sc_Office_leave (fun kV doc pm an cdv ct => StX.bind_star1 (B := fun l => bindArgs (PySem.W.fnOf "leave" "Office.leave" (defArgs s_Office_leave) (defBody s_Office_leave) (defScope s_Office_leave) .none kV doc pm an cdv ct) ⟨l, []⟩) (fun _ => rfl) (fun _ _ _ => rfl)) (fun f cdv A0 outer s H vs Q E hr h => ?_)) fun vs H Q E h => ?_
  · obtain ⟨G, o, p, c, v, pl, dl, ps, ds, n, k, x, par, A, rfl, hp, a, hc, hv, ch, ar, hk, ek, hds, hps, q⟩ := h
    refine ⟨_, (pss_cons (ps_set (i := 2) sc_Office_leave.nd rfl (Or.inl rfl) (pe_calS c_leave (hr.mono (by decide)) (by rfl) (pa_cons (pe_fld (pv 0) rfl) (pa_cons (pe_fld (pv 0) rfl) (StX.pa_star (pv 1) pa_nil)))))
  (pss_one (ps_ret (pe_mth cm_put (hr.mono (by decide)) (pv 0) (pa_cons (pv 2) (pa_cons (pe_lc (own := [("person", 3)])  (by rfl) sc_Office_leave.nd (pi_tup (pv 1)) (blkOk_by (N := N_Office_leave) (sc := defScope s_Office_leave) (by decide +kernel)) (fun _ _ _ _ _ => (pg_name (i := 3) sc_Office_leave.nd rfl (Or.inl rfl))) (fun _ _ _ _ _ => pts_nil) (fun _ _ _ _ _ => (pe_tup (pa_cons pe_str (pa_cons (pv 3) pa_nil))))) pa_nil)))))), ?_⟩
    obtain ⟨dx, e⟩ := a.at_
    refine ⟨_, rfl, o, CO, dx, _, _, rfl, e, T.clO, T.oAbove, of_ga, _, rfl, o, CO, dx, _, _, rfl, e, T.clO, T.oNow, of_gn, _, rfl, p, _, rfl, .inl (SqT.of hp), c, v, n, k, x, par, A, rfl, hc, hv, ch, ar, hk, ek, fun A' ee H1 u g s1 nu hu => ?_⟩
    obtain ⟨dx1, e1⟩ := (a.mono s1).at_
    refine ⟨_, rfl, o, dx1, _, rfl, e1, of_no (by decide +kernel) (by decide +kernel) (by decide +kernel) (by decide +kernel), _, rfl, _, rfl, p, rfl, ⟨_, SqT.of (s1 _ _ hp)⟩, fun d nd => lc_it (walk_tup (xs := [V.int (x : Int)])) (fun i H' => Same H1 H' ∧ ∃ l, H' d = some (.lst l) ∧ l.length = i) ⟨(Same.refl H1).put nd, [], upd_same, rfl⟩ (fun i H' _ h => SqT.of (h.1 _ _ (s1 _ _ hp))) ?_ ?_⟩
    · rintro i z H2 H3 hi ⟨sm, l, hd, hl⟩ ⟨rfl, ez⟩
      obtain rfl : i = 0 := by simpa using hi
      cases ez
      refine ⟨rfl, _, rfl, by show 2 ≤ sizeLine; decide, fun t1 nt1 => ?_⟩
      refine ⟨_, (upd_ne (ne_of_none hd nt1)).trans hd, by rw [hl]; decide, (sm.up nt1).put nd, _, upd_same, by simp [hl]⟩
    · rintro H2 ⟨sm, l, hd, hl⟩
      have hl : l.length = 1 := hl
      obtain ⟨xs, hdn, _⟩ := a.don
      have un : u ∉ [o, pl, dl] := by
        intro hm
        simp at hm
        rcases hm with rfl | rfl | rfl
        · rw [e] at nu; cases nu
        · rw [a.pst] at nu; cases nu
        · rw [hdn] at nu; cases nu
      have a2 := (a.mono s1).mono sm
      obtain ⟨ob, hob, hu3⟩ := hu.mono sm
      refine ⟨_, o, c, v, u, d, pl, dl, ps, ds, l, rfl, a2.drop, hd, (ne_of_none (s1 _ _ hdn) nd).symm, (ne_of_none (s1 _ _ a.pst) nd).symm, hl, hds, hps, fun H' t a3 => ?_⟩
      exact q A' ee H' u t g (a3.re (a2.in_drop.trans a3.sm) a.no a.np a.nd) ⟨ob, hob, a3.sm _ _ ((dropL_ne un).trans hu3)⟩
  · obtain ⟨G, o, c, v, pl, dl, ps, ds, n, k, x, par, A, rfl, a, hc, hv, ch, ar, hk, ek, hds, hps, q⟩ := h
    refine ⟨[.ref o], [.int (x : Int)], rfl, rfl, (by show 1 ≤ sizeLine; decide), fun p np => ?_⟩
    have s1 : Same H (upd H p (.tup [V.int (x : Int)])) := (Same.refl H).put np
    exact ⟨G, o, p, c, v, pl, dl, ps, ds, n, k, x, par, A, rfl, upd_same, a.mono s1, s1 _ _ hc, hv.mono s1, ch, ar, hk, ek, hds, hps, q⟩
end
end K89
set_option Elab.async false
set_option linter.all false
set_option maxRecDepth 100000
set_option maxHeartbeats 1000000
namespace K89
open PySem PySem.Spec PyProof.Rows L2

theorem merge_no {k : Key} : ∀ (kvs acc : List (Key × V)), (∀ p ∈ kvs, p.1 ≠ k) → valV (mergeK acc kvs) k = valV acc k
  | [], _, _ => rfl
  | p :: r, acc, h => by
    show valV (mergeK (putK acc p.1 p.2) r) k = _
    rw [merge_no r _ fun q hq => h q (List.mem_cons_of_mem _ hq), valV_put, if_neg fun e => h p List.mem_cons_self e.symm]
theorem merge_in {k : Key} {v : V} : ∀ (kvs acc : List (Key × V)), (kvs.map (·.1)).Nodup → (k, v) ∈ kvs → valV (mergeK acc kvs) k = some v
  | p :: r, acc, nd, h => by
    have nd' := List.nodup_cons.mp nd
    show valV (mergeK (putK acc p.1 p.2) r) k = _
    rcases List.mem_cons.mp h with e | e
    · subst e
      rw [merge_no r _ fun q hq e => nd'.1 (List.mem_map.mpr ⟨q, hq, e⟩), valV_put, if_pos rfl]
    · exact merge_in r _ nd'.2 e
def spInOrder (CO : Addr) : Sp := fun vs H Q _ => ∃ (c l pp : Addr) (n : Nat) (par : Nat → Nat) (ord xs : List Nat), vs = [.ref CO, .ref c, .ref l, .ref pp] ∧ H c = some (.tup (chV n par)) ∧ H l = some (.lst (nV ord)) ∧ H pp = some (.lst (nV xs)) ∧ Ch n par ∧ Ord n par ord ∧ xs.length = n ∧ xs.Pairwise (· < ·) ∧
  ∀ H' o v pl dl, OffAt CO H H' o c v pl dl [] 0 → AT H' v n (arOf ord xs) → Q (.ref o) H'
section
variable {P : Program} {w : World} {K : PySem.W.Frag} {mg : Str → Option Value} {base : Heap} {CT CU CO : Addr}
abbrev s_Office_in_order : Stmt := inClass (top 47) 2
abbrev N_Office_in_order : List Str := ["cls", "chart", "order", "people", "fault", "holders", "post"]
theorem sc_Office_in_order : FnScope N_Office_in_order ["cls", "chart", "order", "people"] (defScope s_Office_in_order) := ⟨rfl, rfl, rfl, by decide +kernel, rfl, by decide +kernel, by decide +kernel⟩
theorem k_Office_in_order (T : Txt K mg CT CU CO) (D : Dc K mg "Office" CO "in_order" "Office.in_order" s_Office_in_order) (c_require_chart : Cal P w K mg base 3 "require_chart" ["chart"] spChart) (c_require_order : Cal P w K mg base 3 "require_order" ["chart", "order"] spOrd)
    (c_seniority_fault : Cal P w K mg base 2 "seniority_fault" ["people", "count"] spSen) (c_Office : CalI P w K mg base 5 "Office" CO ["self", "chart", "arrangement"] (spOffice CO)) :
    CalCM P w K mg base 7 "Office" CO "in_order" (spInOrder CO) := by
  refine D.ok sc_Office_in_order (fun _ _ _ _ _ _ us hl => match us, hl with | [_, _, _, _], _ => rfl) (fun vs H Q E h => ?_) (fun f cdv A outer s H vs Q E hr h => ?_)
  · obtain ⟨c, l, pp, n, par, ord, xs, rfl, _⟩ := h
    rfl
  · obtain ⟨c, l, pp, n, par, ord, xs, rfl, hc, hl, hp, ch, oo, hxn, so, q⟩ := h
    refine ⟨_, (pss_cons (ps_expr (pe_cal c_require_chart (hr.mono (by decide)) (by rfl) (pa_cons (pv 1) pa_nil)))
  (pss_cons (ps_expr (pe_cal c_require_order (hr.mono (by decide)) (by rfl) (pa_cons (pv 1) (pa_cons (pv 2) pa_nil))))
  (pss_cons (ps_set (i := 4) sc_Office_in_order.nd rfl (Or.inl rfl) (pe_cal c_seniority_fault (hr.mono (by decide)) (by rfl) (pa_cons (pv 3) (pa_cons (pe_callB call_len_seq (by rfl) T.len (by decide +kernel) (pa_cons (pv 1) pa_nil)) pa_nil))))
  (pss_cons (ps_if (pt_cmpR op_notN (pv 4) pe_non (nomark _))
    pss_never pss_nil)
  (pss_cons (ps_set (i := 5) sc_Office_in_order.nd rfl (Or.inr rfl) (pe_dictZipS rfl (by rfl) T.dict (by rfl) T.zip (pa_cons (pv 2) (pa_cons (pv 3) pa_nil)) (pk_cons pe_bl pk_nil)))
  (pss_one (ps_ret (pe_mkL (i := 0) c_Office (hr.mono (by decide)) rfl (Or.inl rfl) (pa_cons (pv 1) (pa_cons (pe_callTy call_tupleF (by rfl) T.tuple (by decide +kernel) (pa_cons (pe_lc (own := [("post", 6)])  (by rfl) sc_Office_in_order.nd (pi_range1 (by rfl) T.range (pa_cons (pe_callB call_len_seq (by rfl) T.len (by decide +kernel) (pa_cons (pv 1) pa_nil)) pa_nil)) (blkOk_by (N := N_Office_in_order) (sc := defScope s_Office_in_order) (by decide +kernel)) (fun _ _ _ _ _ => (pg_name (i := 6) sc_Office_in_order.nd rfl (Or.inl rfl))) (fun _ _ _ _ _ => pts_nil) (fun _ _ _ _ _ => (pe_dget (hu_of hr) (pv 5) (pv 6) (fun _ _ => rfl)))) pa_nil)) pa_nil)))))))))), ?_⟩
    have hle := ch.le
    refine ⟨_, rfl, c, n, par, rfl, hc, ch, fun H1 s1 => ?_⟩
    refine ⟨_, rfl, _, rfl, c, l, n, par, ord, rfl, s1 _ _ hc, s1 _ _ hl, ch, oo, fun H2 s2 => ?_⟩
    have s2 := s1.trans s2
    refine ⟨_, rfl, _, rfl, c, _, rfl, .inr (SqT.of (s2 _ _ hc)), pp, xs, by rw [chV_len, hxn]; rfl, s2 _ _ hp, so, fun H3 s3 => ?_⟩
    have s3 := s2.trans s3
    refine ⟨_, rfl, rfl, _, rfl, ?_⟩
    refine ifF nn_non ?_
    refine ⟨_, rfl, _, rfl, l, pp, _, _, rfl, rfl, SqL.of (s3 _ _ hl), SqL.of (s3 _ _ hp), by rw [nV_len, nV_len, oo.len, hxn], ord.map (fun a => ((a : Nat) : Int)), nV_int, fun d nd => ?_⟩
    obtain ⟨kvs, ekvs⟩ : ∃ kvs, kvs = mergeK [] (zipK (ord.map fun a => ((a : Nat) : Int)) (nV xs)) := ⟨_, rfl⟩
    rw [← ekvs]
    have vals : ∀ k, k < n → valV kvs (Sum.inl (k : Int)) = some (oV (arOf ord xs k)) := fun k hk => by
      obtain ⟨i, h1, h2, e1, e2⟩ := arOf_some (xs := xs) oo hxn hk
      rw [e2, ekvs]
      have hz : (zipK (ord.map fun a => ((a : Nat) : Int)) (nV xs))[i]? = some (Sum.inl (k : Int), V.int (xs[i] : Int)) := by
        refine zipK_at ?_ (nV_get (List.getElem?_eq_getElem h2))
        rw [List.getElem?_map, List.getElem?_eq_getElem h1, e1]
        rfl
      refine merge_in _ _ ?_ (List.mem_of_getElem? hz)
      have e3 : (zipK (ord.map fun a => ((a : Nat) : Int)) (nV xs)).map (·.1) = (ord.map fun a => ((a : Nat) : Int)).map (Sum.inl : Int → Key) := by
        unfold zipK
        rw [List.map_map]
        have e4 : ((fun q : Key × V => q.1) ∘ fun q : Int × V => (Sum.inl q.1, q.2)) = (Sum.inl : Int → Key) ∘ Prod.fst := rfl
        rw [e4, ← List.map_map, List.map_fst_zip (by rw [nV_len, List.length_map, oo.len, hxn]; exact Nat.le_refl _)]
      rw [e3, List.map_map]
      refine List.pairwise_map.mpr (oo.nd.imp fun {a b} h e => h ?_)
      have : (a : Int) = (b : Int) := Sum.inl.inj e
      omega
    have hd := upd_same (H := H3) (a := d) (o := .dK kvs)
    have sd := s3.up (o := .dK kvs) nd
    refine ⟨rfl, _, rfl, _, rfl, c, _, rfl, .inr (SqT.of (sd _ _ hc)), _, rfl, ?_⟩
    rw [chV_len]
    refine ⟨by omega, by omega, fun e ne => lc_it walk_range (fun i H' => Same (upd H3 d (.dK kvs)) H' ∧ H' e = some (.lst ((List.range i).map fun k => oV (arOf ord xs k)))) ⟨(Same.refl _).put ne, upd_same⟩ (fun _ _ _ _ => True.intro) ?_ ?_⟩
    · rintro i z H4 H5 hi ⟨sm, he⟩ ⟨rfl, ez⟩
      have hi : i < n := by simpa using hi
      have ez : z = V.int (i : Int) := by rw [ez]; simp
      subst ez
      have hg : DGet H5 d (V.int (i : Int)) (some (oV (arOf ord xs i))) := by
        rw [← vals i hi]
        exact DGet.k (k := Sum.inl (i : Int)) (sm _ _ hd)
      refine ⟨rfl, _, rfl, _, rfl, d, _, rfl, hg, _, he, ?_, sm.put ne, ?_⟩
      · rw [List.length_map, List.length_range]
        exact sl20 (by omega)
      · rw [upd_same, List.range_succ, List.map_append]
        rfl
    · rintro H4 ⟨sm, he⟩
      have he : H4 e = some (.lst (arV n (arOf ord xs))) := by
        rw [he]
        simp only [Int.toNat_natCast]
        rfl
      refine ⟨e, _, rfl, SqL.of he, fun v ob nv hob => ?_⟩
      have s5 := (sd.trans sm).up (o := .frz ob (.tup (arV n (arOf ord xs)))) nv
      have hv : AT (upd H4 v (.frz ob (.tup (arV n (arOf ord xs))))) v n (arOf ord xs) := ⟨ob, hob, upd_same⟩
      intro o dx no ndx nex
      refine ⟨_, o, c, v, dx, n, par, arOf ord xs, rfl, made no ndx, no, upd_same, s5 _ _ hc, hv, ch, arOf_arr ch.par oo hxn so, fun H' pl dl a => ⟨rfl, ?_⟩⟩
      exact q H' o v pl dl (a.re (s5.trans a.sm) (s5.nw a.no) (s5.nw a.np) (s5.nw a.nd)) (hv.mono a.sm)
end
end K89
set_option Elab.async false
set_option linter.all false
set_option maxRecDepth 100000
set_option maxHeartbeats 1000000
namespace K89
open PySem PySem.Spec PyProof.Rows L2

def spCell (K : PySem.W.Frag) : Sp := fun vs H Q _ => ∃ (a : Addr) (i : Nat) (ns : List Int), vs = [.ref a, .int (i : Int)] ∧ SqL K H a (ns.map V.int) ∧ ns.length ≤ 100 ∧ ∀ z : Int, Q (.int z) H
def spHash : Sp := fun vs H Q _ => ∃ s i : Int, vs = [.int s, .int i] ∧ 0 ≤ s ∧ s < 2147483648 ∧ 0 ≤ i ∧ i < 2 ^ 60 ∧ ∀ z : Int, 0 ≤ z → z < 2147483587 → Q (.int z) H
/-- a generator's list -/
def GenAt (H : Hp) (g : Addr) (m : Int) : Prop := ∃ a b c : Int, H g = some (.lst [.int a, .int b, .int c]) ∧ 0 ≤ a ∧ 0 ≤ b ∧ b < 2147483648 ∧ 0 ≤ c ∧ c ≤ m
def spGen (K : PySem.W.Frag) : Sp := fun vs H Q _ => ∃ (a : Addr) (i : Nat) (ns : List Int), vs = [.ref a, .int (i : Int)] ∧ i ≤ 2 ∧ SqL K H a (ns.map V.int) ∧ ns.length ≤ 100 ∧ ∀ H' g, Same H H' → H g = none → GenAt H' g 2000 → Q (.ref g) H'
def spRandom : Sp := fun vs H Q _ => ∃ (H0 : Hp) (g : Addr) (m : Int) (b : Nat), vs = [.ref g, .int (b : Int)] ∧ Same H0 H ∧ H0 g = none ∧ GenAt H g m ∧ m ≤ 1000000 ∧ 0 < b ∧ b < 2 ^ 62 ∧ ∀ (H' : Hp) (z : Nat), Same H0 H' → GenAt H' g (m + 3) → z < b → Q (.int (z : Int)) H'
section
variable {P : Program} {w : World} {K : PySem.W.Frag} {mg : Str → Option Value} {base : Heap} {CT CU CO : Addr}
abbrev s__law_cell : Stmt := top 49
abbrev N__law_cell : List Str := ["_law_script", "_law_index"]
theorem sc__law_cell : FnScope N__law_cell ["_law_script", "_law_index"] (defScope s__law_cell) := ⟨rfl, rfl, rfl, by decide +kernel, rfl, by decide +kernel, by decide +kernel⟩
theorem k__law_cell (T : Txt K mg CT CU CO) (D : Dg K mg "_law_cell" s__law_cell) : Cal P w K mg base 1 "_law_cell" ["_law_script", "_law_index"] (spCell K) := by
  refine D.ok sc__law_cell (fun _ _ _ _ _ _ us hl => match us, hl with | [_, _], _ => rfl) (fun vs H Q E h => ?_) (fun f cdv A outer s H vs Q E hr h => ?_)
  · obtain ⟨a, i, ns, rfl, _⟩ := h
    rfl
  · obtain ⟨a, i, ns, rfl, ha, hn, q⟩ := h
    refine ⟨_, (pss_cons (ps_if (pt_cmpR op_lt (pv 1) (pe_callB call_len_seq (by rfl) T.len (by decide +kernel) (pa_cons (pv 0) pa_nil)) (nomark _))
    (pss_one (ps_ret (pe_ix ix_list (pv 0) (pv 1) (fun _ _ => rfl)))) pss_nil)
  (pss_one (ps_ret pe_int))), ?_⟩
    refine ⟨_, rfl, _, rfl, a, _, rfl, .inl ha, _, _, rfl, rfl, _, rfl, ?_⟩
    rw [List.length_map]
    by_cases hi : i < ns.length
    · refine ifT (decide_eq_true (by omega)) ?_
      exact ⟨_, rfl, _, rfl, _, _, _, _, rfl, rfl, ha, atI_nat (by rw [List.getElem?_map, List.getElem?_eq_getElem hi]; rfl), q _⟩
    · refine ifF (decide_eq_false (by omega)) ?_
      exact q 0
abbrev s__law_hash : Stmt := top 50
abbrev N__law_hash : List Str := ["_law_seed", "_law_index", "_law_mixed"]
theorem sc__law_hash : FnScope N__law_hash ["_law_seed", "_law_index"] (defScope s__law_hash) := ⟨rfl, rfl, rfl, by decide +kernel, rfl, by decide +kernel, by decide +kernel⟩
theorem k__law_hash (T : Txt K mg CT CU CO) (D : Dg K mg "_law_hash" s__law_hash) : Cal P w K mg base 1 "_law_hash" ["_law_seed", "_law_index"] spHash := by
  refine D.ok sc__law_hash (fun _ _ _ _ _ _ us hl => match us, hl with | [_, _], _ => rfl) (fun vs H Q E h => ?_) (fun f cdv A outer s H vs Q E hr h => ?_)
  · obtain ⟨s0, i, rfl, _⟩ := h
    rfl
  · obtain ⟨s0, i, rfl, h1, h2, h3, h4, q⟩ := h
    refine ⟨_, (pss_cons (ps_set (i := 2) sc__law_hash.nd rfl (Or.inl rfl) (pe_op op_mod (pe_callTy call_int1 (by rfl) T.int (by decide +kernel) (pa_cons (pe_op op_add (pe_op op_add (pe_op op_add (pe_op op_mul (pv 0) pe_int) (pe_op op_mul (pe_op op_mul pe_int (pv 1)) (pv 1))) (pv 1)) pe_int) pa_nil)) pe_int))
  (pss_cons (ps_set (i := 2) sc__law_hash.nd rfl (Or.inl rfl) (pe_op op_mod (pe_callTy call_int1 (by rfl) T.int (by decide +kernel) (pa_cons (pe_op op_add (pe_op op_mul (pv 2) (pv 2)) pe_int) pa_nil)) pe_int))
  (pss_one (ps_ret (pe_op op_mod (pe_callTy call_int1 (by rfl) T.int (by decide +kernel) (pa_cons (pe_op op_mul (pv 2) pe_int) pa_nil)) pe_int))))), ?_⟩
    refine ⟨_, rfl, _, _, rfl, rfl, .inr ⟨by decide, by decide⟩, _, rfl, _, _, rfl, rfl, .inl ⟨by decide, by decide⟩, _, rfl, _, _, rfl, rfl, .inr ⟨by omega, by omega⟩, _, _, rfl, rfl, _, rfl, _, _, rfl, rfl, _, _, rfl, rfl, .inl ⟨_, rfl, _, _, rfl, rfl, (by show (0 : Int) < 2147483647; decide), ?_⟩⟩
    obtain ⟨a, ea⟩ : ∃ a : Int, a = (s0 * 1103515245 + 7919 * i * i + i + 1) % 2147483647 := ⟨_, rfl⟩
    have ha1 : 0 ≤ a := by omega
    have ha2 : a < 2147483647 := by omega
    dsimp only
    rw [← ea]
    refine ⟨_, rfl, _, rfl, _, _, rfl, rfl, .inl ⟨by omega, by omega⟩, _, _, rfl, rfl, .inl ⟨_, rfl, _, _, rfl, rfl, (by show (0 : Int) < 2147483629; decide), ?_⟩⟩
    obtain ⟨b, eb⟩ : ∃ b : Int, b = (a * a + 69621) % 2147483629 := ⟨_, rfl⟩
    have hb1 : 0 ≤ b := by omega
    have hb2 : b < 2147483629 := by omega
    dsimp only
    rw [← eb]
    refine ⟨_, rfl, _, _, rfl, rfl, .inr ⟨by decide, by decide⟩, .inl ⟨_, rfl, _, _, rfl, rfl, (by show (0 : Int) < 2147483587; decide), ?_⟩⟩
    exact q _ (Int.emod_nonneg _ (by decide)) (Int.emod_lt_of_pos _ (by decide))
abbrev s__law_generator : Stmt := top 51
abbrev N__law_generator : List Str := ["_law_script", "_law_index", "_law_seed"]
theorem sc__law_generator : FnScope N__law_generator ["_law_script", "_law_index"] (defScope s__law_generator) := ⟨rfl, rfl, rfl, by decide +kernel, rfl, by decide +kernel, by decide +kernel⟩
theorem k__law_generator (T : Txt K mg CT CU CO) (D : Dg K mg "_law_generator" s__law_generator) (c__law_cell : Cal P w K mg base 1 "_law_cell" ["_law_script", "_law_index"] (spCell K)) : Cal P w K mg base 2 "_law_generator" ["_law_script", "_law_index"] (spGen K) := by
  refine D.ok sc__law_generator (fun _ _ _ _ _ _ us hl => match us, hl with | [_, _], _ => rfl) (fun vs H Q E h => ?_) (fun f cdv A outer s H vs Q E hr h => ?_)
  · obtain ⟨a, i, ns, rfl, _⟩ := h
    rfl
  · obtain ⟨a, i, ns, rfl, hi, ha, hn, q⟩ := h
    refine ⟨_, (pss_cons (ps_set (i := 2) sc__law_generator.nd rfl (Or.inl rfl) (pe_cal c__law_cell (hr.mono (by decide)) (by rfl) (pa_cons (pv 0) (pa_cons (pv 1) pa_nil))))
  (pss_one (ps_ret (pe_lst (pa_cons (pe_op op_mod (pe_callTy call_int1 (by rfl) T.int (by decide +kernel) (pa_cons (pe_callB (call_max2 rfl) (by rfl) T.max (by decide +kernel) (pa_cons (pe_op op_sub (pv 2) (pe_op op_pow pe_int pe_int)) (pa_cons pe_int pa_nil))) pa_nil)) (pe_op op_powX (pe_op op_pow pe_int pe_int) pe_int)) (pa_cons (pe_op op_mod (pe_callTy call_int1 (by rfl) T.int (by decide +kernel) (pa_cons (pv 2) pa_nil)) pe_int) (pa_cons (pe_op op_mul pe_int (pv 1)) pa_nil))))))), ?_⟩
    refine ⟨_, rfl, _, rfl, a, i, ns, rfl, ha, hn, fun z => ?_⟩
    refine ⟨_, rfl, _, _, rfl, rfl, ⟨by decide, by decide, by decide⟩, _, _, rfl, rfl, _, _, rfl, .inl ⟨_, rfl, _, _, rfl, rfl, ⟨by decide, by decide, by decide⟩, _, _, rfl, rfl, ⟨by decide, by decide +kernel⟩, _, _, rfl, rfl, ?_, _, rfl, .inl ⟨_, rfl, _, _, rfl, rfl, (by show (0 : Int) < 2147483647; decide), _, rfl, _, _, rfl, rfl, .inl ⟨by decide, by decide⟩, by show 3 ≤ sizeLine; decide, fun g ng => ?_⟩⟩⟩
    · show (0 : Int) < (10 ^ (60 : Int).toNat) ^ (10 : Int).toNat
      exact Int.pow_pos (Int.pow_pos (by decide))
    · refine q _ g (Same.up (Same.refl H) ng) ng ⟨_, _, _, upd_same, ?_, Int.emod_nonneg _ (by decide), ?_, by omega, by omega⟩
      · exact Int.emod_nonneg _ (Int.ne_of_gt (Int.pow_pos (Int.pow_pos (by decide))))
      · have := Int.emod_lt_of_pos z (show (0 : Int) < 2147483647 by decide)
        omega
end
end K89
set_option Elab.async false
set_option linter.all false
set_option maxRecDepth 100000
set_option maxHeartbeats 1000000
namespace K89
open PySem PySem.Spec PyProof.Rows L2

section
variable {P : Program} {w : World} {K : PySem.W.Frag} {mg : Str → Option Value} {base : Heap} {CT CU CO : Addr}
abbrev s__law_random : Stmt := top 52
abbrev N__law_random : List Str := ["_law_generator_here", "_law_bound", "_law_drawn", "_law_part"]
theorem sc__law_random : FnScope N__law_random ["_law_generator_here", "_law_bound"] (defScope s__law_random) := ⟨rfl, rfl, rfl, by decide +kernel, rfl, by decide +kernel, by decide +kernel⟩
theorem k__law_random (T : Txt K mg CT CU CO) (D : Dg K mg "_law_random" s__law_random) (c__law_hash : Cal P w K mg base 1 "_law_hash" ["_law_seed", "_law_index"] spHash) : Cal P w K mg base 2 "_law_random" ["_law_generator_here", "_law_bound"] spRandom := by
  refine D.ok sc__law_random (fun _ _ _ _ _ _ us hl => match us, hl with | [_, _], _ => rfl) (fun vs H Q E h => ?_) (fun f cdv A outer s H vs Q E hr h => ?_)
  · obtain ⟨H0, g, m, b, rfl, _⟩ := h
    rfl
  · obtain ⟨H0, g, m, b, rfl, s0, ng, ⟨x, y, z, hg, h1, h2, h3, h4, h5⟩, hm, hb1, hb2, q⟩ := h
    refine ⟨_, (pss_cons (ps_if (pt_cmpR op_gt (pe_ix ix_list (pv 0) pe_int (fun _ _ => rfl)) pe_int (nomark _))
    (pss_cons (ps_set (i := 2) sc__law_random.nd rfl (Or.inl rfl) (pe_op op_mod (pe_callTy call_int1 (by rfl) T.int (by decide +kernel) (pa_cons (pe_ix ix_list (pv 0) pe_int (fun _ _ => rfl)) pa_nil)) (pv 1)))
  (pss_cons (ps_asg (pe_op op_fdivW (pe_ix ix_list (pv 0) pe_int (fun _ _ => rfl)) (pv 1)) (pg_sub (pv 0) pe_int set_list))
  (pss_one (ps_ret (pv 2))))) pss_nil)
  (pss_cons (ps_set (i := 2) sc__law_random.nd rfl (Or.inl rfl) pe_int)
  (pss_cons (ps_for PassesOwn.never rfl (pi_range1 (by rfl) T.range (pa_cons (pe_op op_add pe_int (pe_op op_fdiv (pe_bits (pv 1)) pe_int)) pa_nil)) (pg_name (i := 3) sc__law_random.nd rfl (Or.inl rfl))
    (pss_cons (ps_asg (pe_op op_add (pe_ix ix_list (pv 0) pe_int (fun _ _ => rfl)) pe_int) (pg_sub (pv 0) pe_int set_list))
  (pss_one (ps_set (i := 2) sc__law_random.nd rfl (Or.inl rfl) (pe_op op_add (pe_op op_mul (pv 2) pe_int) (pe_cal c__law_hash (hr.mono (by decide)) (by rfl) (pa_cons (pe_ix ix_list (pv 0) pe_int (fun _ _ => rfl)) (pa_cons (pe_ix ix_list (pv 0) pe_int (fun _ _ => rfl)) pa_nil))))))))
  (pss_one (ps_ret (pe_op op_mod (pe_callTy call_int1 (by rfl) T.int (by decide +kernel) (pa_cons (pv 2) pa_nil)) (pv 1))))))), ?_⟩
    have hbi : (0 : Int) < (b : Int) := by omega
    refine ⟨_, rfl, _, _, _, _, rfl, rfl, SqL.of hg, at_of (j := 0) rfl rfl, _, _, rfl, rfl, _, rfl, ?_⟩
    by_cases hx : 0 < x
    · refine ifT (decide_eq_true hx) ?_
      refine ⟨_, rfl, _, _, _, _, rfl, rfl, SqL.of hg, at_of (j := 0) rfl rfl, .inl ⟨_, rfl, _, rfl, _, _, rfl, rfl, hbi, ?_⟩⟩
      refine ⟨_, rfl, _, _, _, _, rfl, rfl, SqL.of hg, at_of (j := 0) rfl rfl, _, rfl, _, _, rfl, rfl, ?_, _, rfl, _, _, _, 0, rfl, rfl, hg, ixN_nat (n := 3) (k := 0) (by decide), ?_⟩
      · refine wide_div (b := 64) hbi ?_ (by decide) (by decide)
        rw [Int.natAbs_natCast]
        omega
      have e : x % (b : Int) = (((x % (b : Int)).toNat : Nat) : Int) := by
        have := Int.emod_nonneg x (show (b : Int) ≠ 0 by omega)
        omega
      refine ⟨_, rfl, ?_⟩
      show Q (.int (x % (b : Int))) (upd H g (.lst [.int (x / (b : Int)), .int y, .int z]))
      rw [e]
      refine q _ _ (s0.put ng) ⟨x / (b : Int), y, z, upd_same, Int.ediv_nonneg h1 (by omega), h2, h3, h4, by omega⟩ ?_
      have := Int.emod_lt_of_pos x hbi
      have := Int.emod_nonneg x (show (b : Int) ≠ 0 by omega)
      omega
    · refine ifF (decide_eq_false hx) ?_
      have hbits : Builtin.Int.intBits (b : Int) ≤ 64 := intBits_le_64 (by omega) (by omega)
      refine ⟨_, rfl, _, rfl, _, _, rfl, rfl, ⟨by decide, by decide⟩, _, _, rfl, rfl, _, rfl, ?_, ?_, for_it walk_range (fun i σ H' => ∃ (d x y z : Int) (p : Option V), σ = [some (.ref g), some (.int (b : Int)), some (.int d), p] ∧ Same H0 H' ∧ H' g = some (.lst [.int x, .int y, .int z]) ∧ 0 ≤ d ∧ 0 ≤ x ∧ 0 ≤ y ∧ y < 2147483648 ∧ 0 ≤ z ∧ z ≤ m + (i : Int)) ⟨0, x, y, z, _, rfl, s0, hg, by decide, h1, h2, h3, h4, by omega⟩ (fun _ _ _ _ _ => True.intro) ?_ ?_⟩
      · omega
      · omega
      · rintro i zz σ H1 H2 hi ⟨d, x, y, z, p, rfl, sm, hg1, g1, g2, g3, g4, g5, g6⟩ ⟨rfl, rfl⟩
        refine ⟨_, rfl, _, _, _, _, rfl, rfl, SqL.of hg1, at_of (j := 2) rfl rfl, _, _, rfl, rfl, _, rfl, _, _, _, 2, rfl, rfl, hg1, ixN_nat (n := 3) (k := 2) (by decide), ?_⟩
        have hg2 := upd_same (H := H2) (a := g) (o := .lst [V.int x, V.int y, V.int (z + 1)])
        refine ⟨_, rfl, _, _, rfl, rfl, .inr ⟨by decide, by decide⟩, _, rfl, _, _, _, _, rfl, rfl, SqL.of hg2, at_of (j := 1) rfl rfl, _, rfl, _, _, _, _, rfl, rfl, SqL.of hg2, at_of (j := 2) rfl rfl, y, z + 1, rfl, g3, g4, by omega, by omega, fun v hv1 hv2 => ?_⟩
        refine ⟨_, _, rfl, rfl, ?_⟩
        refine ⟨_, _, _, _, _, rfl, sm.put ng, upd_same, by omega, g2, g3, g4, by omega, by omega⟩
      · rintro σ H1 ⟨d, x, y, z, p, rfl, sm, hg1, g1, g2, g3, g4, g5, g6⟩
        refine ⟨_, rfl, .inl ⟨_, rfl, _, rfl, _, _, rfl, rfl, hbi, ?_⟩⟩
        have e : d % (b : Int) = (((d % (b : Int)).toNat : Nat) : Int) := by
          have := Int.emod_nonneg d (show (b : Int) ≠ 0 by omega)
          omega
        show Q (.int (d % (b : Int))) H1
        rw [e]
        refine q _ _ sm ⟨x, y, z, hg1, g2, g3, g4, g5, by omega⟩ ?_
        have := Int.emod_lt_of_pos d hbi
        have := Int.emod_nonneg d (show (b : Int) ≠ 0 by omega)
        omega
end
end K89
set_option Elab.async false
set_option linter.all false
set_option maxRecDepth 100000
set_option maxHeartbeats 1000000
namespace K89
open PySem PySem.Spec PyProof.Rows L2

def rLenS (K : PySem.W.Frag) : List V → Hp → VK → Prop := fun xs H Q => ∃ p ys, xs = [.ref p] ∧ (SqL K H p ys ∨ SqT K H p ys) ∧ Q (.int ys.length) H
theorem call_lenK {X : Cx} : CallR X (.builtin "len") (rLenS X.K) := call_len_seq
theorem GenAt.mono {H H' : Hp} {g : Addr} {m m' : Int} (h : GenAt H g m) (s : H' g = H g) (hm : m ≤ m') : GenAt H' g m' := by
  obtain ⟨a, b, c, h1, h2, h3, h4, h5, h6⟩ := h
  exact ⟨a, b, c, by rw [s]; exact h1, h2, h3, h4, h5, by omega⟩
def spShuf : Sp := fun vs H Q _ => ∃ (H0 : Hp) (g l : Addr) (m : Int) (xs : List Nat), vs = [.ref g, .ref l] ∧ Same H0 H ∧ H0 g = none ∧ H0 l = some (.lst (nV xs)) ∧ GenAt H g m ∧ m ≤ 500000 ∧ xs.length ≤ 20 ∧
  ∀ H' r ys, Same H0 H' → GenAt H' g (m + 60) → H0 r = none → r ≠ g → H' r = some (.lst (nV ys)) → ys.Perm xs → Q (.ref r) H'
def spRChart : Sp := fun vs H Q _ => ∃ (H0 : Hp) (g : Addr) (m : Int), vs = [.ref g, .int 20] ∧ Same H0 H ∧ H0 g = none ∧ GenAt H g m ∧ m ≤ 500000 ∧
  ∀ H' c n par, Same H0 H' → GenAt H' g (m + 200) → H0 c = none → c ≠ g → H' c = some (.tup (chV n par)) → Ch n par → Q (.ref c) H'
def spNumbers : Sp := fun vs H Q _ => ∃ (H0 : Hp) (g : Addr) (m : Int) (n : Nat), vs = [.ref g, .int (n : Int)] ∧ Same H0 H ∧ H0 g = none ∧ GenAt H g m ∧ m ≤ 500000 ∧ 0 < n ∧ n ≤ 20 ∧
  ∀ H' r xs, Same H0 H' → GenAt H' g (m + 200) → H0 r = none → r ≠ g → H' r = some (.lst (nV xs)) → xs.length = n → xs.Pairwise (· < ·) → Q (.ref r) H'
section
variable {P : Program} {w : World} {K : PySem.W.Frag} {mg : Str → Option Value} {base : Heap} {CT CU CO : Addr}
abbrev s__law_shuffled : Stmt := top 53
abbrev N__law_shuffled : List Str := ["_law_generator_here", "_law_items", "_law_pool", "_law_item"]
theorem sc__law_shuffled : FnScope N__law_shuffled ["_law_generator_here", "_law_items"] (defScope s__law_shuffled) := ⟨rfl, rfl, rfl, by decide +kernel, rfl, by decide +kernel, by decide +kernel⟩
theorem k__law_shuffled (T : Txt K mg CT CU CO) (D : Dg K mg "_law_shuffled" s__law_shuffled) (c__law_random : Cal P w K mg base 2 "_law_random" ["_law_generator_here", "_law_bound"] spRandom) : Cal P w K mg base 3 "_law_shuffled" ["_law_generator_here", "_law_items"] spShuf := by
  refine D.ok sc__law_shuffled (fun _ _ _ _ _ _ us hl => match us, hl with | [_, _], _ => rfl) (fun vs H Q E h => ?_) (fun f cdv A outer s H vs Q E hr h => ?_)
  · obtain ⟨H0, g, l, m, xs, rfl, _⟩ := h
    rfl
  · obtain ⟨H0, g, l, m, xs, rfl, s0, ng, hl, hg, hm, hlen, q⟩ := h
    refine ⟨_, (pss_cons (ps_set (i := 2) sc__law_shuffled.nd rfl (Or.inr rfl) (pe_callTy call_list_of (by rfl) T.list (by decide +kernel) (pa_cons (pv 1) pa_nil)))
  (pss_one (ps_ret (pe_lc (own := [("_law_item", 3)]) (g := gName 3) (tt := tYes) (te := tBM K "list" rPopAt (tVar 2) (tCons (tCall spRandom [] E0 (tCons (tVar 0) (tCons (tCB (rLenS K) (tCons (tVar 2) tNil)) tNil))) tNil)) (by rfl) sc__law_shuffled.nd (pi_list (pv 1)) (blkOk_by (N := N__law_shuffled) (sc := defScope s__law_shuffled) (by decide +kernel)) (fun _ _ _ _ _ => (pg_name (i := 3) sc__law_shuffled.nd rfl (Or.inl rfl))) (fun _ _ _ _ _ => pts_nil) (fun _ _ _ _ _ => (pe_bm PySem.F.plainAttrs_list PySem.F.slot_list_pop PySem.F.type_list_pop mt_popAt (pv 2) (pa_cons (pe_cal c__law_random (hr.mono (by decide)) (by rfl) (pa_cons (pv 0) (pa_cons (pe_callB call_lenK (by rfl) T.len (by decide +kernel) (pa_cons (pv 2) pa_nil)) pa_nil))) pa_nil))))))), ?_⟩
    refine ⟨_, rfl, l, _, rfl, .inl (SqL.of (s0 _ _ hl)), fun p np => ?_⟩
    have np0 := s0.nw np
    have gp : g ≠ p := by
      obtain ⟨a, b, c, h1, _⟩ := hg
      exact ne_of_none h1 np
    have s1 := s0.put (o := .lst (nV xs)) np0
    refine ⟨_, rfl, l, rfl, ⟨_, SqL.of (s1 _ _ hl)⟩, fun d nd => ?_⟩
    have nd0 := s1.nw nd
    have pd : p ≠ d := ne_of_none upd_same nd
    have hg1 : GenAt (upd H p (.lst (nV xs))) g m := hg.mono (upd_ne gp) (Int.le_refl m)
    have gd : g ≠ d := by
      obtain ⟨a, b, c, h1, _⟩ := hg1
      exact ne_of_none h1 nd
    refine lc_it (walk_list (xs := nV xs)) (fun i H' => Same H0 H' ∧ GenAt H' g (m + 3 * (i : Int)) ∧ ∃ rest out, H' p = some (.lst (nV rest)) ∧ H' d = some (.lst (nV out)) ∧ (out ++ rest).Perm xs ∧ out.length = i) ⟨s1.put nd0, hg1.mono (upd_ne gd) (by omega), xs, [], (upd_ne pd).trans upd_same, upd_same, List.Perm.refl _, rfl⟩ (fun i H' _ h => SqL.of (h.1 _ _ hl)) ?_ ?_
    · rintro i z H1 H2 hi ⟨sm, hg2, rest, out, hp, hd, hperm, hout⟩ ⟨rfl, ez⟩
      rw [nV_len] at hi
      have hrl : rest.length + i = xs.length := by
        have := hperm.length_eq
        rw [List.length_append] at this
        omega
      refine ⟨rfl, _, rfl, .inl ⟨rfl, _, SqL.of hp⟩, _, rfl, _, rfl, p, _, rfl, .inl (SqL.of hp), drop1 H2 g, g, m + 3 * (i : Int), rest.length, by rw [nV_len]; rfl, drop_same, drop_at, hg2, by omega, by omega, by omega, fun H3 z s3 hg3 hz => ?_⟩
      have hp3 : H3 p = some (.lst (nV rest)) := s3 _ _ ((drop_ne gp.symm).trans hp)
      have hd3 : H3 d = some (.lst (nV out)) := s3 _ _ ((drop_ne gd.symm).trans hd)
      have hgz : (nV rest)[z]? = some (V.int (rest[z] : Int)) := nV_get (List.getElem?_eq_getElem hz)
      have sm3 : Same H0 H3 := (to_drop sm ng).trans s3
      refine ⟨p, _, _, z, _, rfl, rfl, hp3, by omega, by omega, ?_, hgz, ?_⟩
      · rw [seqIndex_of (by omega) (by rw [nV_len]; omega), Int.toNat_natCast]
      · refine ⟨_, (upd_ne pd.symm).trans hd3, ?_, (sm3.put np0).put nd0, ?_, rest.eraseIdx z, out ++ [rest[z]], ?_, ?_, ?_, by simp [hout]⟩
        · rw [nV_len]
          exact sl20 (by omega)
        · exact hg3.mono ((upd_ne gd).trans (upd_ne gp)) (by omega)
        · rw [upd_ne pd, upd_same, nV, map_eraseIdx]
          rfl
        · rw [upd_same, nV_app, nV_one]
        · rw [List.append_assoc]
          exact ((erase_perm hz).symm.append_left out).trans hperm
    · rintro H1 ⟨sm, hg2, rest, out, hp, hd, hperm, hout⟩
      rw [nV_len] at hg2 hout
      have hr0 : rest = [] := by
        have := hperm.length_eq
        rw [List.length_append] at this
        exact List.eq_nil_of_length_eq_zero (by omega)
      rw [hr0, List.append_nil] at hperm
      exact q H1 d out sm (hg2.mono rfl (by omega)) nd0 gd.symm hd hperm
end
end K89
set_option Elab.async false
set_option linter.all false
set_option maxRecDepth 100000
set_option maxHeartbeats 1000000
namespace K89
open PySem PySem.Spec PyProof.Rows L2

section
variable {P : Program} {w : World} {K : PySem.W.Frag} {mg : Str → Option Value} {base : Heap} {CT CU CO : Addr}
theorem chV_snoc {i v : Nat} {par : Nat → Nat} (h0 : 0 < i) : chV i par ++ [V.int (v : Int)] = chV (i + 1) (fun k => if k = i then v else par k) := by
  unfold chV
  rw [List.range_succ, List.map_append]
  congr 1
  · refine List.map_congr_left fun k hk => ?_
    have := List.mem_range.mp hk
    split
    · rfl
    · dsimp only
      rw [if_neg (by omega)]
  · simp only [List.map_cons, List.map_nil, if_neg (show ¬ i = 0 by omega), if_true]
theorem GenAt.up {H : Hp} {g p : Addr} {m : Int} {o : HO} (h : GenAt H g m) (np : H p = none) : GenAt (upd H p o) g m := by
  obtain ⟨a, b, c, h1, h2⟩ := h
  exact ⟨a, b, c, (upd_ne (ne_of_none h1 np)).trans h1, h2⟩
theorem GenAt.ne {H : Hp} {g p : Addr} {m : Int} (h : GenAt H g m) (np : H p = none) : g ≠ p := by
  obtain ⟨a, b, c, h1, h2⟩ := h
  exact ne_of_none h1 np
abbrev s__law_random_chart : Stmt := top 54
abbrev N__law_random_chart : List Str := ["_law_generator_here", "_law_most", "_law_size", "_law_kind", "_law_above", "_law_post", "_law_near"]
theorem sc__law_random_chart : FnScope N__law_random_chart ["_law_generator_here", "_law_most"] (defScope s__law_random_chart) := ⟨rfl, rfl, rfl, by decide +kernel, rfl, by decide +kernel, by decide +kernel⟩
theorem k__law_random_chart (T : Txt K mg CT CU CO) (D : Dg K mg "_law_random_chart" s__law_random_chart) (c__law_random : Cal P w K mg base 2 "_law_random" ["_law_generator_here", "_law_bound"] spRandom) : Cal P w K mg base 3 "_law_random_chart" ["_law_generator_here", "_law_most"] spRChart := by
  refine D.ok sc__law_random_chart (fun _ _ _ _ _ _ us hl => match us, hl with | [_, _], _ => rfl) (fun vs H Q E h => ?_) (fun f cdv A outer s H vs Q E hr h => ?_)
  · obtain ⟨H0, g, m, rfl, _⟩ := h
    rfl
  · obtain ⟨H0, g, m, rfl, s0, ng, hg, hm, q⟩ := h
    refine ⟨_, (pss_cons (ps_set (i := 2) sc__law_random_chart.nd rfl (Or.inl rfl) (pe_op op_add pe_int (pe_cal c__law_random (hr.mono (by decide)) (by rfl) (pa_cons (pv 0) (pa_cons (pv 1) pa_nil)))))
  (pss_cons (ps_set (i := 3) sc__law_random_chart.nd rfl (Or.inl rfl) (pe_cal c__law_random (hr.mono (by decide)) (by rfl) (pa_cons (pv 0) (pa_cons pe_int pa_nil))))
  (pss_cons (ps_set (i := 4) sc__law_random_chart.nd rfl (Or.inl rfl) (pe_lst (pa_cons pe_non pa_nil)))
  (pss_cons (ps_for PassesOwn.never rfl (pi_range2 (by rfl) T.range (pa_cons pe_int (pa_cons (pv 2) pa_nil))) (pg_name (i := 5) sc__law_random_chart.nd rfl (Or.inl rfl))
    (pss_cons (ps_set (i := 6) sc__law_random_chart.nd rfl (Or.inl rfl) (pe_callB (call_max2 rfl) (by rfl) T.max (by decide +kernel) (pa_cons pe_int (pa_cons (pe_op op_sub (pe_op op_sub (pv 5) pe_int) (pe_cal c__law_random (hr.mono (by decide)) (by rfl) (pa_cons (pv 0) (pa_cons pe_int pa_nil)))) pa_nil))))
  (pss_one (ps_expr (pe_bm PySem.F.plainAttrs_list PySem.F.slot_list_append PySem.F.type_list_append mt_append (pv 4) (pa_cons (pe_ix ix_list (pe_lst (pa_cons (pe_op op_sub (pv 5) pe_int) (pa_cons pe_int (pa_cons (pe_cal c__law_random (hr.mono (by decide)) (by rfl) (pa_cons (pv 0) (pa_cons (pv 5) pa_nil))) (pa_cons (pv 6) pa_nil))))) (pv 3) (fun _ _ => rfl)) pa_nil))))))
  (pss_one (ps_ret (pe_callTy call_tuple_of (by rfl) T.tuple (by decide +kernel) (pa_cons (pv 4) pa_nil)))))))), ?_⟩
    refine ⟨_, rfl, _, rfl, H0, g, m, 20, rfl, s0, ng, hg, by omega, by decide, by decide, fun H1 z s1 hg1 hz => ⟨_, _, rfl, rfl, ?_⟩⟩
    refine ⟨_, rfl, H0, g, m + 3, 4, rfl, s1, ng, hg1, by omega, by decide, by decide, fun H2 kd s2 hg2 hkd => ?_⟩
    refine ⟨by show 1 ≤ sizeLine; decide, fun l nl => ?_⟩
    have nl0 := s2.nw nl
    have gl := hg2.ne nl
    refine ⟨_, rfl, _, _, rfl, ⟨by omega, by omega, by omega, by omega⟩, for_it walk_range (fun i σ H' => ∃ (par : Nat → Nat) (a b : Option V), σ = [some (.ref g), some (.int 20), some (.int (1 + (z : Int))), some (.int (kd : Int)), some (.ref l), a, b] ∧ Same H0 H' ∧ GenAt H' g (m + 6 + 6 * (i : Int)) ∧ H' l = some (.lst (chV (i + 1) par)) ∧ ∀ k, 0 < k → par k < k)
      ⟨fun _ => 0, _, _, rfl, s2.put nl0, (hg2.up nl).mono rfl (by omega), upd_same, fun k h => h⟩ (fun _ _ _ _ _ => True.intro) ?_ ?_⟩
    · rintro i zz σ H3 H4 hi ⟨par, a, b, rfl, sm, hg3, hl3, hpar⟩ ⟨rfl, rfl⟩
      have hi : i < z := by omega
      have hl4 : ∀ H5, Same (drop1 H4 g) H5 → H5 l = some (.lst (chV (i + 1) par)) := fun H5 s5 => s5 _ _ ((drop_ne gl.symm).trans hl3)
      refine ⟨_, rfl, _, _, rfl, rfl, _, rfl, drop1 H4 g, g, m + 6 + 6 * (i : Int), 3, rfl, drop_same, drop_at, hg3, by omega, by decide, by decide, fun H5 r s5 hg5 hr3 => ⟨_, _, rfl, rfl, _, _, rfl, ?_⟩⟩
      obtain ⟨nr, enr⟩ : ∃ nr : Nat, (if (1 + (i : Int)) - 1 - (r : Int) > 0 then (1 + (i : Int)) - 1 - (r : Int) else 0) = (nr : Int) ∧ nr < i + 1 := by
        refine ⟨(if (1 + (i : Int)) - 1 - (r : Int) > 0 then (1 + (i : Int)) - 1 - (r : Int) else 0).toNat, ?_, ?_⟩ <;> split <;> omega
      dsimp only
      rw [enr.1]
      have hl5 := hl4 H5 s5
      have s05 : Same H0 H5 := (to_drop sm ng).trans s5
      refine ⟨_, rfl, .inl ⟨rfl, _, SqL.of hl5⟩, _, rfl, _, _, rfl, rfl, _, rfl, _, rfl, drop1 H5 g, g, m + 6 + 6 * (i : Int) + 3, i + 1, ?_, drop_same, drop_at, hg5, by omega, by omega, by omega, fun H6 rr s6 hg6 hrr => ?_⟩
      · show [V.ref g, V.int (1 + (i : Int))] = [V.ref g, V.int ((i + 1 : Nat) : Int)]
        rw [show (1 + (i : Int)) = ((i + 1 : Nat) : Int) by omega]
      have hl6 : H6 l = some (.lst (chV (i + 1) par)) := s6 _ _ ((drop_ne gl.symm).trans hl5)
      have s06 : Same H0 H6 := (to_drop s05 ng).trans s6
      refine ⟨_, rfl, by show 4 ≤ sizeLine; decide, fun u nu => ?_⟩
      have lu : l ≠ u := ne_of_none hl6 nu
      have fin : ∀ v : Nat, v < i + 1 → ∀ (L : List V), ∃ (par' : Nat → Nat) (a b : Option V), [some (V.ref g), some (V.int 20), some (V.int (1 + (z : Int))), some (V.int (kd : Int)), some (V.ref l), some (V.int (1 + (i : Int))), some (V.int (nr : Int))] = [some (V.ref g), some (V.int 20), some (V.int (1 + (z : Int))), some (V.int (kd : Int)), some (V.ref l), a, b] ∧
          Same H0 (upd (upd H6 u (.lst L)) l (.lst (chV (i + 1) par ++ [V.int (v : Int)]))) ∧ GenAt (upd (upd H6 u (.lst L)) l (.lst (chV (i + 1) par ++ [V.int (v : Int)]))) g (m + 6 + 6 * ((i + 1 : Nat) : Int)) ∧
          upd (upd H6 u (.lst L)) l (.lst (chV (i + 1) par ++ [V.int (v : Int)])) l = some (.lst (chV (i + 1 + 1) par')) ∧ ∀ k, 0 < k → par' k < k := fun v hv L => by
        refine ⟨fun k => if k = i + 1 then v else par k, _, _, rfl, (s06.up nu).put nl0, ?_, by rw [upd_same, chV_snoc (by omega)], fun k hk => ?_⟩
        · exact (hg6.up nu).mono (upd_ne gl) (by omega)
        · dsimp only
          split
          · omega
          · exact hpar k hk
      have hlen : (chV (i + 1) par).length < sizeLine := by rw [chV_len]; exact sl20 (by omega)
      rcases (show kd = 0 ∨ kd = 1 ∨ kd = 2 ∨ kd = 3 by omega) with rfl | rfl | rfl | rfl
      · refine ⟨_, rfl, _, _, _, _, rfl, rfl, SqL.of upd_same, at_of (j := 0) rfl rfl, _, _, _, rfl, rfl, (upd_ne lu).trans hl6, hlen, ?_⟩
        have e : (1 + (i : Int)) - 1 = ((i : Nat) : Int) := by omega
        dsimp only
        rw [e]
        exact fin i (by omega) _
      · refine ⟨_, rfl, _, _, _, _, rfl, rfl, SqL.of upd_same, at_of (j := 1) rfl rfl, _, _, _, rfl, rfl, (upd_ne lu).trans hl6, hlen, ?_⟩
        exact fin 0 (by omega) _
      · refine ⟨_, rfl, _, _, _, _, rfl, rfl, SqL.of upd_same, at_of (j := 2) rfl rfl, _, _, _, rfl, rfl, (upd_ne lu).trans hl6, hlen, ?_⟩
        exact fin rr hrr _
      · refine ⟨_, rfl, _, _, _, _, rfl, rfl, SqL.of upd_same, at_of (j := 3) rfl rfl, _, _, _, rfl, rfl, (upd_ne lu).trans hl6, hlen, ?_⟩
        exact fin nr enr.2 _
    · rintro σ H3 ⟨par, a, b, rfl, sm, hg3, hl3, hpar⟩
      have ez : (1 + (z : Int) - 1).toNat = z := by omega
      rw [ez] at hg3 hl3
      refine ⟨_, rfl, l, _, rfl, .inl ⟨SqL.of hl3, fun c nc => ?_⟩⟩
      exact q _ c (z + 1) par (sm.up nc) ((hg3.up nc).mono rfl (by omega)) (sm.nw nc) (hg3.ne nc).symm upd_same ⟨by omega, by omega, hpar⟩
abbrev s__law_numbers : Stmt := top 55
abbrev N__law_numbers : List Str := ["_law_generator_here", "_law_count", "_law_numbers_here", "_law_gap"]
theorem sc__law_numbers : FnScope N__law_numbers ["_law_generator_here", "_law_count"] (defScope s__law_numbers) := ⟨rfl, rfl, rfl, by decide +kernel, rfl, by decide +kernel, by decide +kernel⟩
theorem k__law_numbers (T : Txt K mg CT CU CO) (D : Dg K mg "_law_numbers" s__law_numbers) (c__law_random : Cal P w K mg base 2 "_law_random" ["_law_generator_here", "_law_bound"] spRandom) : Cal P w K mg base 3 "_law_numbers" ["_law_generator_here", "_law_count"] spNumbers := by
  refine D.ok sc__law_numbers (fun _ _ _ _ _ _ us hl => match us, hl with | [_, _], _ => rfl) (fun vs H Q E h => ?_) (fun f cdv A outer s H vs Q E hr h => ?_)
  · obtain ⟨H0, g, m, n, rfl, _⟩ := h
    rfl
  · obtain ⟨H0, g, m, n, rfl, s0, ng, hg, hm, hn, hn2, q⟩ := h
    refine ⟨_, (pss_cons (ps_set (i := 2) sc__law_numbers.nd rfl (Or.inl rfl) (pe_lst (pa_cons (pe_cal c__law_random (hr.mono (by decide)) (by rfl) (pa_cons (pv 0) (pa_cons pe_int pa_nil))) pa_nil)))
  (pss_cons (ps_while PassesOwn.never (pt_cmpR op_lt (pe_callB call_len_seq (by rfl) T.len (by decide +kernel) (pa_cons (pv 2) pa_nil)) (pv 1) (nomark _))
    (pss_cons (ps_set (i := 3) sc__law_numbers.nd rfl (Or.inl rfl) (pe_ix ix_list (pe_lst (pa_cons pe_int (pa_cons pe_int (pa_cons (pe_op op_pow pe_int pe_int) pa_nil)))) (pe_cal c__law_random (hr.mono (by decide)) (by rfl) (pa_cons (pv 0) (pa_cons pe_int pa_nil))) (fun _ _ => rfl)))
  (pss_one (ps_expr (pe_bm PySem.F.plainAttrs_list PySem.F.slot_list_append PySem.F.type_list_append mt_append (pv 2) (pa_cons (pe_op op_add (pe_op op_add (pe_ix ix_list (pv 2) (pe_un un_neg pe_int) (fun _ _ => rfl)) pe_int) (pe_cal c__law_random (hr.mono (by decide)) (by rfl) (pa_cons (pv 0) (pa_cons (pv 3) pa_nil)))) pa_nil))))))
  (pss_one (ps_ret (pv 2))))), ?_⟩
    refine ⟨_, rfl, H0, g, m, 3, rfl, s0, ng, hg, by omega, by decide, by decide, fun H1 z s1 hg1 hz => ⟨by show 1 ≤ sizeLine; decide, fun l nl => ?_⟩⟩
    have nl0 := s1.nw nl
    have gl := hg1.ne nl
    refine ⟨fun mm σ H' => ∃ (pre : List Nat) (y : Nat) (a : Option V), σ = [some (.ref g), some (.int (n : Int)), some (.ref l), a] ∧ Same H0 H' ∧ GenAt H' g (m + 3 + 6 * (pre.length : Int)) ∧ H' l = some (.lst (nV (pre ++ [y]))) ∧ (pre ++ [y]).Pairwise (· < ·) ∧ pre.length + 1 + mm = n,
      ⟨n - 1, [], z, _, rfl, s1.put nl0, (hg1.up nl).mono rfl (by simp), upd_same, by simp, by simp; omega⟩, ?_⟩
    rintro mm σ H2 ⟨pre, y, a, rfl, s2, hg2, hl2, so, hpn⟩
    refine ⟨_, rfl, l, _, rfl, .inl (SqL.of hl2), _, rfl, _, _, rfl, rfl, _, rfl, ?_⟩
    rw [nV_len, List.length_append, List.length_singleton]
    by_cases hlt : pre.length + 1 < n
    · refine ifT (decide_eq_true (by omega)) ?_
      refine ⟨fun σ' H' => ∃ m', m' < mm ∧ ∃ (pre : List Nat) (y : Nat) (a : Option V), σ' = [some (.ref g), some (.int (n : Int)), some (.ref l), a] ∧ Same H0 H' ∧ GenAt H' g (m + 3 + 6 * (pre.length : Int)) ∧ H' l = some (.lst (nV (pre ++ [y]))) ∧ (pre ++ [y]).Pairwise (· < ·) ∧ pre.length + 1 + m' = n, fun _ _ z => z, ?_⟩
      refine ⟨_, _, rfl, rfl, ⟨by decide, by decide, by decide⟩, by show 3 ≤ sizeLine; decide, fun u nu => ?_⟩
      have lu : l ≠ u := ne_of_none hl2 nu
      have gu := hg2.ne nu
      have hg3 := hg2.up (o := .lst [V.int 1, V.int 1, V.int (10 ^ (5 : Int).toNat)]) nu
      have s3 := s2.up (o := .lst [V.int 1, V.int 1, V.int (10 ^ (5 : Int).toNat)]) nu
      have hl3 : upd H2 u (.lst [V.int 1, V.int 1, V.int (10 ^ (5 : Int).toNat)]) l = some (.lst (nV (pre ++ [y]))) := (upd_ne lu).trans hl2
      refine ⟨_, rfl, drop1 (upd H2 u (.lst [V.int 1, V.int 1, V.int (10 ^ (5 : Int).toNat)])) g, g, m + 3 + 6 * (pre.length : Int), 3, rfl, drop_same, drop_at, hg3, by omega, by decide, by decide, fun H4 r s4 hg4 hr => ?_⟩
      have hl4 : H4 l = some (.lst (nV (pre ++ [y]))) := s4 _ _ ((drop_ne gl.symm).trans hl3)
      have hu4 : H4 u = some (.lst [V.int 1, V.int 1, V.int (10 ^ (5 : Int).toNat)]) := s4 _ _ ((drop_ne gu.symm).trans upd_same)
      have s04 : Same H0 H4 := (to_drop s3 ng).trans s4
      obtain ⟨gap, hgap, hat⟩ : ∃ gap : Nat, (0 < gap ∧ gap < 2 ^ 62) ∧ [V.int 1, V.int 1, V.int (10 ^ (5 : Int).toNat)][r]? = some (V.int (gap : Int)) := by
        rcases (show r = 0 ∨ r = 1 ∨ r = 2 by omega) with rfl | rfl | rfl
        · exact ⟨1, by decide, rfl⟩
        · exact ⟨1, by decide, rfl⟩
        · exact ⟨100000, by decide, rfl⟩
      refine ⟨_, _, _, _, rfl, rfl, SqL.of hu4, at_of rfl hat, ?_⟩
      have hlast : atI (nV (pre ++ [y])) (-1) = some (V.int (y : Int)) := by
        rw [nV_app, nV_one]
        exact atI_last _ _
      refine ⟨_, rfl, .inl ⟨rfl, _, SqL.of hl4⟩, _, rfl, _, rfl, _, _, _, _, rfl, rfl, SqL.of hl4, hlast, _, _, rfl, rfl, _, rfl, _, rfl, drop1 H4 g, g, m + 3 + 6 * (pre.length : Int) + 3, gap, rfl, drop_same, drop_at, hg4, by omega, hgap.1, hgap.2, fun H5 v s5 hg5 hv => ?_⟩
      have hl5 : H5 l = some (.lst (nV (pre ++ [y]))) := s5 _ _ ((drop_ne gl.symm).trans hl4)
      refine ⟨_, _, rfl, rfl, _, _, _, rfl, rfl, hl5, ?_, ?_⟩
      · rw [nV_len]
        exact sl20 (by simp; omega)
      · refine ⟨mm - 1, by omega, pre ++ [y], y + 1 + v, _, rfl, ((to_drop s04 ng).trans s5).put nl0, ?_, ?_, ?_, by simp; omega⟩
        · exact hg5.mono (upd_ne gl) (by simp; omega)
        · rw [upd_same, nV_app (a := pre ++ [y]), nV_one]
          rw [show ((y + 1 + v : Nat) : Int) = (y : Int) + 1 + (v : Int) by omega]
        · refine List.pairwise_append.mpr ⟨so, by simp, fun a ha b hb => ?_⟩
          rw [List.mem_singleton.mp hb]
          rcases List.mem_append.mp ha with h | h
          · have := (List.pairwise_append.mp so).2.2 a h y (by simp)
            omega
          · rw [List.mem_singleton.mp h]
            omega
    · refine ifF (decide_eq_false (by omega)) ?_
      exact ⟨_, rfl, q H2 l _ s2 (hg2.mono rfl (by omega)) nl0 gl.symm hl2 (by simp; omega) so⟩
end
end K89
set_option Elab.async false
set_option linter.all false
set_option maxRecDepth 100000
set_option maxHeartbeats 1000000
namespace K89
open PySem PySem.Spec PyProof.Rows L2


/-- at the bottom of the past stands v -/
def Bot (v vi : Addr) (ps : Past) : Prop := (ps = [] ∧ vi = v) ∨ ∃ t d r, ps = (t, v, d) :: r
theorem Bot.push {v vi u t : Addr} {ps : Past} {d : Nat} (b : Bot v vi ps) : Bot v u (ps ++ [(t, vi, d)]) := by
  rcases b with ⟨h1, h2⟩ | ⟨t', d', r, h⟩
  · subst h1 h2
    exact .inr ⟨t, d, [], rfl⟩
  · subst h
    exact .inr ⟨t', d', r ++ [(t, vi, d)], rfl⟩
theorem Bot.pop {v vi u t : Addr} {ps : Past} {d : Nat} (b : Bot v u (ps ++ [(t, vi, d)])) : Bot v vi ps := by
  cases ps with
  | nil =>
    rcases b with ⟨h1, _⟩ | ⟨t', d', r, h⟩
    · simp at h1
    · have := (List.cons.inj h).1
      injection this with e1 e2
      injection e2 with e3 e4
      exact .inl ⟨rfl, e3⟩
  | cons q ps =>
    rcases b with ⟨h1, _⟩ | ⟨t', d', r, h⟩
    · simp at h1
    · exact .inr ⟨t', d', ps, by rw [(List.cons.inj h).1]⟩
def spHeads (CO : Addr) : Sp := fun vs H Q _ => ∃ (G : Hp) (o c v pl dl l : Addr) (n : Nat) (par : Nat → Nat) (A : Fn) (xs : List Nat), vs = [.ref c, .ref o, .ref l] ∧ OffAt CO G H o c v pl dl [] 0 ∧ G c = some (.tup (chV n par)) ∧ G l = some (.lst (nV xs)) ∧ AT G v n A ∧ Ch n par ∧ Arr n par A ∧ PeopleOf n A xs ∧ xs.length = n ∧
  ∀ H' dl' ds', OffAt CO G H' o c v pl dl' [] ds' → ds' ≤ 20 → Q (.bl true) H'
theorem cut_from {l : List Nat} {i : Nat} (h : i ≤ l.length) : cutV (nV l) (some (i : Int)) none = nV (l.drop i) := by
  unfold cutV
  rw [HT.sIx_nat, HT.sIx_none, nV_len, Nat.min_eq_left h]
  rw [List.take_of_length_le (by rw [List.length_drop, nV_len]; exact Nat.le_refl _)]
  exact (List.map_drop ..).symm
section
variable {P : Program} {w : World} {K : PySem.W.Frag} {mg : Str → Option Value} {base : Heap} {CT CU CO : Addr}
abbrev s__law_heads_right : Stmt := top 56
abbrev N__law_heads_right : List Str := ["_law_above", "_law_office", "_law_numbers_here", "_law_index", "_law_expected"]
theorem sc__law_heads_right : FnScope N__law_heads_right ["_law_above", "_law_office", "_law_numbers_here"] (defScope s__law_heads_right) := ⟨rfl, rfl, rfl, by decide +kernel, rfl, by decide +kernel, by decide +kernel⟩
theorem k__law_heads_right (T : Txt K mg CT CU CO) (D : Dg K mg "_law_heads_right" s__law_heads_right) (c_head : CalP P w K mg base 1 CO "head" (spHead CO)) (c_people : CalP P w K mg base 1 CO "people" (spPeopleP CO)) (c_arrangement : CalP P w K mg base 1 CO "arrangement" (spArrP CO))
    (c_reduced : Cal P w K mg base 5 "reduced" ["chart", "arrangement", "people"] spReduced) (cm_leave : CalMR P w K mg base 6 CO "leave" (spOLeave CO)) (cm_undo : CalM P w K mg base 1 CO "undo" ["self"] (spUndo CO)) (cm_len : CalM P w K mg base 1 CO "__len__" ["self"] (spLen CO)) :
    Cal P w K mg base 7 "_law_heads_right" ["_law_above", "_law_office", "_law_numbers_here"] (spHeads CO) := by
  refine D.ok sc__law_heads_right (fun _ _ _ _ _ _ us hl => match us, hl with | [_, _, _], _ => rfl) (fun vs H Q E h => ?_) (fun f cdv A outer s H vs Q E hr h => ?_)
  · obtain ⟨G, o, c, v, pl, dl, l, n, par, A, xs, rfl, _⟩ := h
    rfl
  · obtain ⟨G, o, c, v, pl, dl, l, n, par, A, xs, rfl, a0, hc, hl, hv, ch, ar, pe, hxn, q⟩ := h
    refine ⟨_, (pss_cons (ps_for PassesOwn.never rfl (pi_range1 (by rfl) T.range (pa_cons (pe_callB call_len_seq (by rfl) T.len (by decide +kernel) (pa_cons (pv 2) pa_nil)) pa_nil)) (pg_name (i := 3) sc__law_heads_right.nd rfl (Or.inl rfl))
    (pss_cons (ps_if (PW.pt (pw_or (pt_cmpR op_ne (pe_prp c_head (hr.mono (by decide)) (pv 1) rfl) (pe_ix ix_list (pv 2) (pv 3) (fun _ _ => rfl)) (nomark _)) (pw_or1 (pt_cmpR (op_neS hr.units) (pe_prp c_people (hr.mono (by decide)) (pv 1) rfl) (pe_slice sl_list (pv 2) (po_some (pv 3)) po_none) (nomark _)))))
    pss_never pss_nil)
  (pss_cons (ps_set (i := 4) sc__law_heads_right.nd rfl (Or.inl rfl) (pe_cal c_reduced (hr.mono (by decide)) (by rfl) (pa_cons (pv 0) (pa_cons (pe_prp c_arrangement (hr.mono (by decide)) (pv 1) rfl) (pa_cons (pe_slice sl_list (pv 2) (po_some (pe_op op_add (pv 3) pe_int)) po_none) pa_nil)))))
  (pss_one (ps_if (pt_cmpR (op_neS hr.units) (pe_mthR cm_leave hr (pv 1) (pa_cons (pe_ix ix_list (pv 2) (pv 3) (fun _ _ => rfl)) pa_nil)) (pv 4) (nomark _))
    pss_never pss_nil)))))
  (Evl.pss_cut (ps_if (PW.pt (pw_or (pt_cmpR op_notN (pe_prp c_head (hr.mono (by decide)) (pv 1) rfl) pe_non (nomark _)) (pw_or1 (pt_cmpR (op_neS hr.units) (pe_prp c_arrangement (hr.mono (by decide)) (pv 1) rfl) (pe_op op_repA (pe_tup (pa_cons pe_non pa_nil)) (pe_callB call_len_seq (by rfl) T.len (by decide +kernel) (pa_cons (pv 0) pa_nil))) (nomark _)))))
    pss_never pss_nil)
  (pss_cons (ps_while PassesOwn.never (pt_cmpR op_gt (pe_callB (call_lenO cm_len (hr.mono (by decide))) (by rfl) T.len (by decide +kernel) (pa_cons (pv 1) pa_nil)) pe_int (nomark _))
    (pss_one (ps_expr (pe_mth0 cm_undo (hr.mono (by decide)) (pv 1)))))
  (pss_one (ps_ret pe_bl))))), ?_⟩
    have hle := ch.le
    have hnd : xs.Nodup := pe.sort.imp fun h => Nat.ne_of_lt h
    refine ⟨_, rfl, l, _, rfl, .inl (SqL.of (a0.sm _ _ hl)), _, rfl, ?_⟩
    rw [nV_len]
    refine ⟨by omega, by omega, for_it walk_range (fun i σ H' => ∃ (vi : Addr) (Ai : Fn) (ps : Past) (a b : Option V), σ = [some (.ref c), some (.ref o), some (.ref l), a, b] ∧ OffAt CO G H' o c vi pl dl ps i ∧ AT H' vi n Ai ∧ Arr n par Ai ∧ PeopleOf n Ai (xs.drop i) ∧ ps.length = i ∧ Bot v vi ps)
      ⟨v, A, [], _, _, rfl, a0, hv.mono a0.sm, ar, pe, rfl, .inl ⟨rfl, rfl⟩⟩ (fun _ _ _ _ _ => True.intro) ?_ ?_⟩
    · rintro i z σ H1 H2 hi ⟨vi, Ai, ps, a, b, rfl, a1, hv1, ar1, pe1, hps, bot⟩ ⟨rfl, ez⟩
      have hi : i < xs.length := by simpa using hi
      have ez : z = V.int (i : Int) := by rw [ez]; simp
      subst ez
      have hg : xs[i]? = some xs[i] := List.getElem?_eq_getElem hi
      obtain ⟨x, ex⟩ : ∃ x, x = xs[i] := ⟨_, rfl⟩
      have edrop : xs.drop i = x :: xs.drop (i + 1) := by rw [ex]; exact List.drop_eq_getElem_cons hi
      rw [edrop] at pe1
      have h0 : Ai 0 = some x := head_first ch.par ar1 pe1 ch.pos
      rw [← ex] at hg
      obtain ⟨dx, e⟩ := a1.at_
      have hlx : atI (nV xs) (i : Int) = some (V.int (x : Int)) := atI_nat (nV_get hg)
      refine ⟨_, rfl, o, dx, _, rfl, e, G, o, c, vi, pl, dl, ps, i, n, Ai, rfl, a1, hv1, ch.pos, ?_⟩
      rw [h0]
      refine ⟨_, rfl, _, rfl, _, _, _, _, rfl, rfl, SqL.of (a1.sm _ _ hl), hlx, rfl, _, rfl, ?_⟩
      refine ifF (nI_f rfl) ?_
      refine ⟨_, rfl, o, dx, _, rfl, e, G, o, c, vi, pl, dl, ps, i, n, Ai, rfl, a1, hv1, hle, ar1.inj, fun H3 pp xs3 s3 npp hpp pe3 => ?_⟩
      have exs : xs3 = xs.drop i := by rw [edrop]; exact pe3.uniq pe1
      have a3 := a1.mono s3
      refine ⟨_, rfl, _, rfl, _, rfl, l, _, rfl, SqL.of (a3.sm _ _ hl), fun r nr => ?_⟩
      rw [cut_from (by omega)]
      have ppr : pp ≠ r := ne_of_none hpp nr
      refine ⟨_, _, _, rfl, rfl, fl_n, .inl ⟨SqL.of ((upd_ne ppr).trans hpp), SqL.of (by rw [upd_same, exs])⟩, _, rfl, ?_⟩
      refine iteF ?_
      have s4 := s3.up (o := .lst (nV (xs.drop i))) nr
      have a4 := a1.mono s4
      obtain ⟨dx4, e4⟩ := a4.at_
      obtain ⟨A', ee, g⟩ := Goes.ex ch.par (put1 Ai 0 none) 0 ch.pos
      have lf := g.left ch.par ar1 ch.pos h0
      have pe' := left_people lf pe1
      refine ⟨_, rfl, _, rfl, o, dx4, _, rfl, e4, G, o, c, vi, pl, dl, ps, i, rfl, a4, _, rfl, _, rfl, _, _, rfl, rfl, _, rfl, l, _, rfl, SqL.of (a4.sm _ _ hl), fun r2 nr2 => ?_⟩
      rw [show ((i : Int) + 1) = ((i + 1 : Nat) : Int) by omega, cut_from (by omega)]
      have s5 := s4.up (o := .lst (nV (xs.drop (i + 1)))) nr2
      have a5 := a1.mono s5
      refine ⟨c, vi, r2, n, par, Ai, A', xs.drop (i + 1), rfl, a5.sm _ _ hc, hv1.mono s5, upd_same, ch, ar1, by rw [List.length_drop]; omega, ⟨ar1.inj, lf.arr, (hnd.sublist (List.drop_sublist _ _)), pe'.mem, lf.rise⟩, fun H6 u s6 nu hu => ?_⟩
      have a6 := a5.mono s6
      have un := a6.nar hu
      obtain ⟨dx6, e6⟩ := a6.at_
      refine ⟨_, rfl, o, dx6, _, rfl, e6, of_no (by decide +kernel) (by decide +kernel) (by decide +kernel) (by decide +kernel), _, rfl, _, rfl, _, _, _, _, rfl, rfl, SqL.of (a6.sm _ _ hl), hlx, _, o, c, vi, pl, dl, ps, i, n, 0, x, par, Ai, rfl, a6.drop, a6.sm _ _ hc, (hv1.mono s5).mono s6, ch, ar1, ch.pos, h0, by omega, by omega, fun A2 e2 H7 u2 t2 g2 a7 hu2 => ?_⟩
      obtain ⟨eA, _⟩ := g.det ch.par (inj_put_none ar1.inj) put1_same g2
      subst eA
      have hu7 := (hu.drop un).mono a7.sm
      refine ⟨_, rfl, _, _, _, rfl, rfl, fl_ar, .inr ⟨hu2.sq, hu7.sq⟩, _, rfl, ?_⟩
      refine iteF ?_
      exact ⟨u2, A', ps ++ [(t2, vi, i)], _, _, rfl, a7.re (a6.in_drop.trans a7.sm) a6.no a6.np a6.nd, hu2, lf.arr, pe', by simp [hps], bot.push⟩
    · rintro σ H1 ⟨vi, Ai, ps, a, b, rfl, a1, hv1, ar1, pe1, hps, bot⟩
      simp only [Int.toNat_natCast] at a1 pe1 hps
      rw [List.drop_length] at pe1
      have none : ∀ k, k < n → Ai k = Option.none := fun k hk => by
        cases e : Ai k with
        | none => rfl
        | some y =>
          have := (pe1.mem y).mpr ⟨k, hk, e⟩
          simp at this
      obtain ⟨dx, e⟩ := a1.at_
      refine ⟨fun σ H' => ∃ (vi dl : Addr) (ps : Past) (ds : Nat) (a b : Option V), σ = [some (.ref c), some (.ref o), some (.ref l), a, b] ∧ OffAt CO G H' o c vi pl dl ps ds ∧ Bot v vi ps ∧ ds ≤ 20 ∧ ps.length ≤ 20, ⟨_, rfl, o, dx, _, rfl, e, G, o, c, vi, pl, dl, ps, xs.length, n, Ai, rfl, a1, hv1, ch.pos, ?_⟩, ?_⟩
      · rw [none 0 ch.pos]
        refine ⟨rfl, _, rfl, ?_⟩
        refine ifF nn_non ?_
        have rep : arV n Ai = List.replicate n V.non := List.eq_replicate_iff.mpr ⟨arV_len, fun y hy => by
          obtain ⟨k, hk, rfl⟩ := List.mem_map.mp hy
          rw [none k (List.mem_range.mp hk)]
          rfl⟩
        refine ⟨_, rfl, o, dx, _, rfl, e, G, o, c, vi, pl, dl, ps, xs.length, rfl, a1, by show 1 ≤ sizeLine; decide, fun t nt => ?_⟩
        have s2 := Same.up (o := .tup [V.non]) (Same.refl H1) nt
        have a2 := a1.mono s2
        refine ⟨_, rfl, c, _, rfl, .inr (SqT.of (a2.sm _ _ hc)), t, (n : Int), _, rfl, by rw [chV_len], SqT.of upd_same, List.cons_ne_nil _ _, by have := ch.pos; omega, by omega, by show 1 ≤ 1000; decide, fun h1 => ?_, fun h2 t2 nt2 => ?_⟩
        · have n1 : n = 1 := by omega
          refine ⟨_, _, _, rfl, rfl, fl_ar, .inr ⟨(hv1.mono s2).sq, SqT.of ?_⟩, _, rfl, ?_⟩
          · rw [upd_same, rep, n1]
            rfl
          refine iteF ?_
          exact ⟨vi, dl, ps, _, a, b, rfl, a2, bot, by omega, by omega⟩
        · have tt2 : t ≠ t2 := ne_of_none upd_same nt2
          have s3 := s2.up (o := .tup (List.replicate ((n : Int)).toNat [V.non]).flatten) nt2
          refine ⟨_, _, _, rfl, rfl, fl_ar, .inr ⟨(hv1.mono s3).sq, SqT.of ?_⟩, _, rfl, ?_⟩
          · rw [upd_same, rep, Int.toNat_natCast]
            congr 2
            simp
          refine iteF ?_
          exact ⟨vi, dl, ps, _, a, b, rfl, a1.mono s3, bot, by omega, by omega⟩
      · rintro σ2 H2 ⟨vi2, dl2, ps2, ds2, a', b', rfl, a2, bot2, hds2, hpl2⟩
        refine ⟨fun m σ H' => ∃ (vi dl : Addr) (ps : Past) (ds : Nat), σ = [some (.ref c), some (.ref o), some (.ref l), a', b'] ∧ OffAt CO G H' o c vi pl dl ps ds ∧ Bot v vi ps ∧ ds ≤ 20 ∧ ps.length = m ∧ m ≤ 1000000, ⟨ps2.length, vi2, dl2, ps2, ds2, rfl, a2, bot2, hds2, rfl, by omega⟩, ?_⟩
        rintro m σ H3 ⟨vi, dl3, ps3, ds3, rfl, a3, bot3, hds3, hm, hmm⟩
        obtain ⟨dx3, e3⟩ := a3.at_
        refine ⟨_, rfl, o, dx3, _, rfl, e3, G, o, c, vi, pl, dl3, ps3, ds3, rfl, a3, ps3.length, rfl, by omega, _, _, rfl, rfl, _, rfl, ?_⟩
        by_cases hp : ps3 = []
        · subst hp
          refine ifF (decide_eq_false (by simp)) ?_
          have ev : vi = v := by
            rcases bot3 with ⟨_, h⟩ | ⟨_, _, _, h⟩
            · exact h
            · cases h
          subst ev
          exact q H3 dl3 ds3 a3 hds3
        · have hpos : 0 < ps3.length := List.length_pos_iff.mpr hp
          refine ifT (decide_eq_true (by omega)) ?_
          refine ⟨fun σ' H' => ∃ m', m' < m ∧ ∃ (vi dl : Addr) (ps : Past) (ds : Nat), σ' = [some (.ref c), some (.ref o), some (.ref l), a', b'] ∧ OffAt CO G H' o c vi pl dl ps ds ∧ Bot v vi ps ∧ ds ≤ 20 ∧ ps.length = m' ∧ m' ≤ 1000000, fun _ _ z => z, ?_⟩
          obtain ⟨ps4, ⟨t4, v4, d4⟩, e4⟩ : ∃ r q, ps3 = r ++ [q] := ⟨ps3.dropLast, ps3.getLast hp, (List.dropLast_concat_getLast hp).symm⟩
          subst e4
          refine ⟨_, rfl, o, dx3, _, rfl, e3, of_no (by decide +kernel) (by decide +kernel) (by decide +kernel) (by decide +kernel), G, o, c, vi, pl, dl3, t4, v4, ps4, ds3, d4, rfl, a3, fun H4 dl4 ds4 a4 hds4 => ?_⟩
          exact ⟨ps4.length, by rw [← hm, List.length_append]; simp, v4, dl4, ps4, ds4, rfl, a4, bot3.pop, by omega, rfl, by rw [List.length_append] at hm; simp at hm; omega⟩
end
end K89
set_option Elab.async false
set_option linter.all false
set_option maxRecDepth 100000
set_option maxHeartbeats 1000000
namespace K89
open PySem PySem.Spec PyProof.Rows L2

def spBack (CO : Addr) : Sp := fun vs H Q _ => ∃ (G : Hp) (g o c v pl dl l : Addr) (m : Int) (n ds : Nat) (par : Nat → Nat) (A : Fn) (xs : List Nat), vs = [.ref g, .ref c, .ref o, .ref l] ∧ OffAt CO G H o c v pl dl [] ds ∧ ds ≤ 20 ∧ GenAt H g m ∧ m ≤ 400000 ∧ G g = none ∧ g ≠ pl ∧ g ≠ dl ∧
  G c = some (.tup (chV n par)) ∧ G l = some (.lst (nV xs)) ∧ AT G v n A ∧ Ch n par ∧ Arr n par A ∧ PeopleOf n A xs ∧ xs.length = n ∧ (∀ k, k < n → ∃ y, A k = some y) ∧ ∀ H', Same G H' → Q (.bl true) H'
section
variable {P : Program} {w : World} {K : PySem.W.Frag} {mg : Str → Option Value} {base : Heap} {CT CU CO : Addr}
abbrev s__law_back_right : Stmt := top 58
abbrev N__law_back_right : List Str := ["_law_generator_here", "_law_above", "_law_office", "_law_numbers_here", "_law_first", "_law_leavers", "_law_emptied_here", "_law_leaver", "_law_place", "_law_after", "_law_rows", "_law_holders", "_law_row"]
theorem sc__law_back_right : FnScope N__law_back_right ["_law_generator_here", "_law_above", "_law_office", "_law_numbers_here"] (defScope s__law_back_right) := ⟨rfl, rfl, rfl, by decide +kernel, rfl, by decide +kernel, by decide +kernel⟩
theorem k__law_back_right (T : Txt K mg CT CU CO) (D : Dg K mg "_law_back_right" s__law_back_right) (c_arrangement : CalP P w K mg base 1 CO "arrangement" (spArrP CO)) (c_people : CalP P w K mg base 1 CO "people" (spPeopleP CO))
    (c__law_shuffled : Cal P w K mg base 3 "_law_shuffled" ["_law_generator_here", "_law_items"] spShuf) (c__law_random : Cal P w K mg base 2 "_law_random" ["_law_generator_here", "_law_bound"] spRandom)
    (c__law_emptied : Cal P w K mg base 7 "_law_emptied" ["_law_above", "_law_holders", "_law_leaver"] spEmptied) (c_leave : CalR P w K mg base 5 "leave_arrangements" spLeave) (cm_leave : CalMR P w K mg base 6 CO "leave" (spOLeave CO)) (c_order_of : Cal P w K mg base 5 "order_of" ["chart", "arrangement"] spOrderOf)
    (c_join : Cal P w K mg base 5 "join" ["chart", "arrangement", "person", "post"] spJoin) (cm_admit : CalM P w K mg base 6 CO "admit" ["self", "person", "post"] (spAdmit CO)) :
    Cal P w K mg base 8 "_law_back_right" ["_law_generator_here", "_law_above", "_law_office", "_law_numbers_here"] (spBack CO) := by
  refine D.ok sc__law_back_right (fun _ _ _ _ _ _ us hl => match us, hl with | [_, _, _, _], _ => rfl) (fun vs H Q E h => ?_) (fun f cdv A outer s H vs Q E hr h => ?_)
  · obtain ⟨G, g, o, c, v, pl, dl, l, m, n, ds, par, A, xs, rfl, _⟩ := h
    rfl
  · obtain ⟨G, g, o, c, v, pl, dl, l, m, n, ds, par, A, xs, rfl, a0, hds, hg, hm, ng, gpl, gdl, hc, hl, hv, ch, ar, pe, hxn, full, q⟩ := h
    refine ⟨_, (pss_cons (ps_set (i := 4) sc__law_back_right.nd rfl (Or.inl rfl) (pe_prp c_arrangement (hr.mono (by decide)) (pv 2) rfl))
  (pss_cons (ps_set (i := 5) sc__law_back_right.nd rfl (Or.inl rfl) (pe_slice sl_list (pe_cal c__law_shuffled (hr.mono (by decide)) (by rfl) (pa_cons (pv 0) (pa_cons (pv 3) pa_nil))) po_none (po_some (pe_op op_add pe_int (pe_cal c__law_random (hr.mono (by decide)) (by rfl) (pa_cons (pv 0) (pa_cons (pe_callB call_lenK (by rfl) T.len (by decide +kernel) (pa_cons (pv 3) pa_nil)) pa_nil)))))))
  (pss_cons (ps_set (i := 6) sc__law_back_right.nd rfl (Or.inr rfl) (pe_lst pa_nil))
  (pss_cons (ps_for PassesOwn.never rfl (pi_list (pv 5)) (pg_name (i := 7) sc__law_back_right.nd rfl (Or.inl rfl))
    (pss_cons (ps_set (i := 8) sc__law_back_right.nd rfl (Or.inl rfl) (pe_cal c__law_emptied (hr.mono (by decide)) (by rfl) (pa_cons (pv 1) (pa_cons (pe_prp c_arrangement (hr.mono (by decide)) (pv 2) rfl) (pa_cons (pv 7) pa_nil)))))
  (pss_cons (ps_set (i := 9) sc__law_back_right.nd rfl (Or.inr rfl) (pe_calR c_leave (hr.mono (by decide)) (by rfl) (pa_cons (pv 1) (pa_cons (pe_prp c_arrangement (hr.mono (by decide)) (pv 2) rfl) (pa_cons (pv 7) pa_nil)))))
  (pss_cons (ps_if (PW.pt (pw_or (pt_cmpR op_isN (pv 8) pe_non (nomark _)) (pw_or (pt_cmpR op_notN (pe_ix ix_tup (pv 9) (pv 8) (fun _ _ => rfl)) pe_non (nomark _)) (pw_or1 (pt_cmpR (op_neS hr.units) (pe_mthR cm_leave (hr.mono (by decide)) (pv 2) (pa_cons (pv 7) pa_nil)) (pv 9) (nomark _))))))
    pss_never pss_nil)
  (pss_cons (ps_expr (pe_bm PySem.F.plainAttrs_list PySem.F.slot_list_append PySem.F.type_list_append mt_append (pv 6) (pa_cons (pv 8) pa_nil)))
  (pss_cons (ps_set (i := 10) sc__law_back_right.nd rfl (Or.inl rfl) (pe_cal c_order_of (hr.mono (by decide)) (by rfl) (pa_cons (pv 1) (pa_cons (pv 9) pa_nil))))
  (pss_one (ps_if (PW.pt (pw_or (pt_cmpR (op_neS hr.units) (pe_lc (own := [("_law_row", 12)]) (g := gName 12) (tt := tYes) (te := tOp (rIxT K) (tVar 9) (tVar 12)) (by rfl) sc__law_back_right.nd (pi_list (pv 10)) (blkOk_by (N := N__law_back_right) (sc := defScope s__law_back_right) (by decide +kernel)) (fun _ _ _ _ _ => (pg_name (i := 12) sc__law_back_right.nd rfl (Or.inl rfl))) (fun _ _ _ _ _ => pts_nil) (fun _ _ _ _ _ => (pe_ix ix_tup (pv 9) (pv 12) (fun _ _ => rfl)))) (pe_prp c_people (hr.mono (by decide)) (pv 2) rfl) (nomark _)) (pw_or1 (pt_cmpR (op_neS hr.units) (pv 10) (pe_lc (own := [("_law_row", 12)]) (g := gName 12) (tt := tTest (tOp (rIn K true) (tVar 12) (tVar 6))) (te := tVar 12) (by rfl) sc__law_back_right.nd (pi_list (pv 10)) (blkOk_by (N := N__law_back_right) (sc := defScope s__law_back_right) (by decide +kernel)) (fun _ _ _ _ _ => (pg_name (i := 12) sc__law_back_right.nd rfl (Or.inl rfl))) (fun _ _ _ _ _ => (pts_one (pt_cmpR op_notIn_seq (pv 12) (pv 6) rfl))) (fun _ _ _ _ _ => (pv 12))) (nomark _)))))
    pss_never pss_nil))))))))
  (pss_cons (ps_set (i := 11) sc__law_back_right.nd rfl (Or.inl rfl) (pe_prp c_arrangement (hr.mono (by decide)) (pv 2) rfl))
  (pss_cons (ps_for PassesOwn.never rfl (pi_zip (by rfl) T.zip (pa_cons (pe_revL (pv 5)) (pa_cons (pe_revL (pv 6)) pa_nil))) (pg_tup (by rfl) (pgs_cons (pg_name (i := 7) sc__law_back_right.nd rfl (Or.inl rfl)) (pgs_cons (pg_name (i := 8) sc__law_back_right.nd rfl (Or.inl rfl)) pgs_nil)))
    (pss_cons (ps_set (i := 11) sc__law_back_right.nd rfl (Or.inl rfl) (pe_cal c_join (hr.mono (by decide)) (by rfl) (pa_cons (pv 1) (pa_cons (pv 11) (pa_cons (pv 7) (pa_cons (pv 8) pa_nil))))))
  (pss_one (ps_if (pt_cmpR (op_neS hr.units) (pe_mth cm_admit (hr.mono (by decide)) (pv 2) (pa_cons (pv 7) (pa_cons (pv 8) pa_nil))) (pv 11) (nomark _))
    pss_never pss_nil))))
  (pss_one (ps_ret (pe_cmpR (op_eqS hr.units) (pv 11) (pv 4) (nomark _)))))))))), ?_⟩
    have hle := ch.le
    have hpos := ch.pos
    have hnd : xs.Nodup := pe.sort.imp fun h => Nat.ne_of_lt h
    obtain ⟨dx, e⟩ := a0.at_
    obtain ⟨ga, gb, gc, hgl, _⟩ := id hg
    have lg : l ≠ g := fun h => by rw [h, ng] at hl; cases hl
    have cg : c ≠ g := fun h => by rw [h, ng] at hc; cases hc
    refine ⟨_, rfl, o, dx, _, rfl, e, G, o, c, v, pl, dl, [], ds, rfl, a0, ?_⟩
    refine ⟨_, rfl, _, rfl, drop1 H g, g, l, m, xs, rfl, drop_same, drop_at, (drop_ne lg).trans (a0.sm _ _ hl), hg, by omega, by omega, fun H1 r ys s1 hg1 nr rg hr1 perm => ?_⟩
    have a1 := a0.monoG s1 hgl ng gpl gdl
    obtain ⟨ga1, gb1, gc1, hgl1, _⟩ := id hg1
    refine ⟨_, rfl, _, rfl, l, _, rfl, .inl (SqL.of (a1.sm _ _ hl)), drop1 H1 g, g, m + 60, xs.length, by rw [nV_len]; rfl, drop_same, drop_at, hg1, by omega, by omega, by omega, fun H2 z s2 hg2 hz => ?_⟩
    have a2 := a1.monoG s2 hgl1 ng gpl gdl
    have hr2 : H2 r = some (.lst (nV ys)) := s2 _ _ ((drop_ne rg).trans hr1)
    refine ⟨_, _, rfl, rfl, _, rfl, r, _, rfl, SqL.of hr2, fun p np => ?_⟩
    rw [show ((1 : Int) + (z : Int)) = ((1 + z : Nat) : Int) by omega, cut_to]
    obtain ⟨ls, els⟩ : ∃ ls, ls = ys.take (1 + z) := ⟨_, rfl⟩
    rw [← els]
    have hyl : ys.length = n := by rw [perm.length_eq, hxn]
    have lls : ls.length ≤ 20 := by rw [els, List.length_take]; omega
    have lnd : ls.Nodup := by rw [els]; exact (perm.nodup_iff.mpr hnd).sublist (List.take_sublist _ _)
    have lmem : ∀ y ∈ ls, y ∈ xs := fun y hy => perm.mem_iff.mp (by rw [els] at hy; exact List.mem_of_mem_take hy)
    refine ⟨by show 0 ≤ sizeLine; exact Nat.zero_le _, fun em nem => ?_⟩
    have a3 := (a2.mono (Same.up (o := .lst (nV ls)) (Same.refl H2) np)).mono (Same.up (o := .lst []) (Same.refl _) nem)
    have pem : p ≠ em := ne_of_none upd_same nem
    have gem : G em = none := (a2.sm.trans (Same.up (o := .lst (nV ls)) (Same.refl H2) np)).nw nem
    obtain ⟨H4, eH4⟩ : ∃ H4, H4 = upd (upd H2 p (.lst (nV ls))) em (.lst []) := ⟨_, rfl⟩
    rw [← eH4] at a3 ⊢
    have hem4 : H4 em = some (.lst []) := by rw [eH4]; exact upd_same
    have hp4 : H4 p = some (.lst (nV ls)) := by rw [eH4]; exact (upd_ne pem).trans upd_same
    have gp : G p = none := a2.sm.nw np
    have emo : em ≠ o := fun h => by obtain ⟨d2, e2⟩ := a3.at_; rw [← h, hem4] at e2; cases e2
    have po : p ≠ o := fun h => by obtain ⟨d2, e2⟩ := a3.at_; rw [← h, hp4] at e2; cases e2
    have ppl : p ≠ pl := (ne_of_none a2.pst np).symm
    have pdl : p ≠ dl := by obtain ⟨_, e2, _⟩ := a2.don; exact (ne_of_none e2 np).symm
    have empl : em ≠ pl := (ne_of_none ((upd_ne ppl.symm).trans a2.pst) nem).symm
    have emdl : em ≠ dl := by obtain ⟨_, e2, _⟩ := a2.don; exact (ne_of_none ((upd_ne pdl.symm).trans e2) nem).symm
    obtain ⟨B, sB, bo, bpl, bdl, bem, bp, sG⟩ : ∃ B, Same B H4 ∧ B o = none ∧ B pl = none ∧ B dl = none ∧ B em = none ∧ B p = some (.lst (nV ls)) ∧ Same G B := by
      refine ⟨drop1 (dropL H4 [o, pl, dl]) em, drop_same.trans dropL_same, ?_, ?_, ?_, drop_at, ?_, to_drop a3.in_drop gem⟩
      · rw [drop_ne emo.symm]; exact dropL_at (by simp)
      · rw [drop_ne empl.symm]; exact dropL_at (by simp)
      · rw [drop_ne emdl.symm]; exact dropL_at (by simp)
      · rw [drop_ne pem, dropL_ne (by simp [po, ppl, pdl])]; exact hp4
    have a4 := a3.re sB bo bpl bdl
    have hv4 : AT H4 v n A := hv.mono a3.sm
    have bc := sG _ _ hc
    clear eH4 a3 a2 a1 hgl1 hgl hr1 hr2
    refine ⟨_, rfl, p, rfl, ⟨_, SqL.of hp4⟩, for_it (walk_list (xs := nV ls)) (fun i σ H' => ∃ (vi : Addr) (Ai : Fn) (ps : Past) (d : Nat) (es : List Nat) (s7 s8 s9 s10 : Option V), σ = [some (.ref g), some (.ref c), some (.ref o), some (.ref l), some (.ref v), some (.ref p), some (.ref em), s7, s8, s9, s10, none, none] ∧ OffAt CO B H' o c vi pl dl ps d ∧ AT H' vi n Ai ∧ Arr n par Ai ∧ H' em = some (.lst (nV es)) ∧ Lvs n par A (ls.take i) es Ai ∧ (∀ k, k < n → ((∃ y, Ai k = some y) ↔ k ∉ es)) ∧ (∀ y, (∃ k, k < n ∧ Ai k = some y) ↔ y ∈ xs ∧ y ∉ ls.take i) ∧ d ≤ ds + i ∧ ps.length = i)
      ⟨v, A, [], ds, [], _, _, _, _, rfl, a4, hv4, ar, hem4, Lvs.nil, fun k hk => ⟨fun _ => List.not_mem_nil, fun _ => full k hk⟩, fun y => ⟨fun h => ⟨(pe.mem y).mpr h, List.not_mem_nil⟩, fun h => (pe.mem y).mp h.1⟩, by omega, rfl⟩ (fun i σ H' _ ⟨_, _, _, _, _, _, _, _, _, _, a, _⟩ => SqL.of (a.sm _ _ bp)) ?_ ?_⟩
    · rintro i z1 σ H5 H6 hi ⟨vi, Ai, ps, d, es, s7, s8, s9, s10, rfl, a5, hv5, ar5, hem5, lvs, held, who, hd, hps⟩ ⟨rfl, ez⟩
      rw [nV_len] at hi
      obtain ⟨x, ex⟩ : ∃ x, x = ls[i] := ⟨_, rfl⟩
      have hg : ls[i]? = some x := by rw [ex]; exact List.getElem?_eq_getElem hi
      rw [nV_get hg] at ez
      cases ez
      have etake : ls.take (i + 1) = ls.take i ++ [x] := by rw [List.take_succ, hg]; rfl
      have hxls : x ∈ ls := List.mem_of_getElem? hg
      have hxn' : x ∉ ls.take i := fun hx => by
        have h1 : (ls.take i ++ [x]).Nodup := by rw [← etake]; exact lnd.sublist (List.take_sublist _ _)
        exact (List.nodup_append.mp h1).2.2 x hx x (by simp) rfl
      obtain ⟨k, hk, hkx⟩ := (who x).mpr ⟨lmem x hxls, hxn'⟩
      obtain ⟨dx5, e5⟩ := a5.at_
      refine ⟨_, rfl, _, rfl, o, dx5, _, rfl, e5, B, o, c, vi, pl, dl, ps, d, rfl, a5, _, rfl, c, vi, n, k, x, par, Ai, rfl, a5.sm _ _ bc, hv5, ch, ar5, hk, hkx, fun A1 e1 H7 go1 s7' => ?_⟩
      have a7 := a5.mono s7'
      have hv7 := hv5.mono s7'
      obtain ⟨dx7, e7⟩ := a7.at_
      refine ⟨_, rfl, _, rfl, o, dx7, _, rfl, e7, B, o, c, vi, pl, dl, ps, d, rfl, a7, _, rfl, c, vi, n, k, x, par, Ai, rfl, a7.sm _ _ bc, hv7, ch, ar5, hk, hkx, fun A2 e2 H8 u go2 s8' nu hu => ?_⟩
      obtain ⟨eA, ee⟩ := go1.det ch.par (inj_put_none ar5.inj) put1_same go2
      subst eA
      subst ee
      have lf := go1.left ch.par ar5 hk hkx
      have a8 := a7.mono s8'
      have hv8 := hv7.mono s8'
      have hem8 : H8 em = some (.lst (nV es)) := s8' _ _ (s7' _ _ hem5)
      have un := a8.nar hu
      obtain ⟨dx8, e8⟩ := a8.at_
      refine ⟨_, rfl, rfl, _, rfl, ?_⟩
      refine ifF vi_non ?_
      refine ⟨_, rfl, _, rfl, u, _, (e1 : Int), _, rfl, rfl, hu.sq, at_ar lf.lt, rfl, ?_⟩
      rw [lf.nil]
      refine ⟨_, rfl, ?_⟩
      refine ifF nn_non ?_
      refine ⟨_, rfl, o, dx8, _, rfl, e8, of_no (by decide +kernel) (by decide +kernel) (by decide +kernel) (by decide +kernel), _, rfl, dropL H8 [o, pl, dl], o, c, vi, pl, dl, ps, d, n, k, x, par, Ai, rfl, a8.drop, a8.sm _ _ bc, hv8, ch, ar5, hk, hkx, by omega, by omega, fun A3 e3 H9 u2 t2 go3 a9 hu2 => ?_⟩
      obtain ⟨eA, _⟩ := go1.det ch.par (inj_put_none ar5.inj) put1_same go3
      subst eA
      have hu9 := (hu.drop un).mono a9.sm
      refine ⟨_, rfl, _, _, _, rfl, rfl, fl_ar, .inr ⟨hu2.sq, hu9.sq⟩, _, rfl, ?_⟩
      refine iteF ?_
      have hem9 : H9 em = some (.lst (nV es)) := a9.sm _ _ ((dropL_ne (by simp [emo, empl, emdl])).trans hem8)
      have a9' := a9.re (a8.in_drop.trans a9.sm) bo bpl bdl
      have a10 := a9'.put (l' := nV es ++ [.int (e1 : Int)]) hem9 bem empl emdl
      have hu10 := hu9.put (l' := nV es ++ [.int (e1 : Int)]) hem9
      have hu210 := hu2.put (l' := nV es ++ [.int (e1 : Int)]) hem9
      have lvs' : Lvs n par A (ls.take (i + 1)) (es ++ [e1]) A1 := by rw [etake]; exact lvs.snoc lf
      have hes : es.length = i := by
        have := lvs.len
        rw [List.length_take] at this
        omega
      have hes20 : es.length < 20 := by omega
      refine ⟨_, rfl, .inl ⟨rfl, _, SqL.of hem9⟩, _, rfl, em, _, _, rfl, rfl, hem9, by rw [nV_len]; exact sl20 (by omega), ?_⟩
      obtain ⟨H10, eH10⟩ : ∃ H10, H10 = upd H9 em (.lst (nV es ++ [.int (e1 : Int)])) := ⟨_, rfl⟩
      have hem10 : H10 em = some (.lst (nV (es ++ [e1]))) := by rw [eH10, upd_same, nV_app, nV_one]
      rw [← eH10] at a10 hu10 hu210 ⊢
      clear eH10
      refine ⟨_, rfl, _, rfl, c, u, n, par, A1, rfl, a10.sm _ _ bc, hu10, ch, lf.arr, fun H11 lr rows s11 nlr hlr rows11 => ?_⟩
      have a11 := a10.mono s11
      have hu11 := hu10.mono s11
      have hu211 := hu210.mono s11
      have hem11 := s11 _ _ hem10
      have rlen : rows.length ≤ n := by
        have h1 : (rows.map fun k => (A1 k).getD 0).Nodup := rows11.sort.imp fun h => Nat.ne_of_lt h
        have h2 : rows.Nodup := (List.pairwise_map.mp h1).imp fun h e => h (congrArg (fun k => (A1 k).getD 0) e)
        have h3 : ∀ k ∈ rows, k ∈ List.range n := fun k hk => List.mem_range.mpr ((rows11.mem k).mp hk).1
        have := h2.length_le_of_subset h3
        rwa [List.length_range] at this
      refine ⟨_, rfl, lr, rfl, ⟨_, SqL.of hlr⟩, fun D1 nD1 => lc_it (walk_list (xs := nV rows)) (fun i' H' => Same H11 H' ∧ H' D1 = some (.lst (nV ((rows.take i').map fun k => (A1 k).getD 0)))) ⟨(Same.refl H11).put nD1, upd_same⟩ (fun i' H' _ h => SqL.of (h.1 _ _ hlr)) ?_ ?_⟩
      · rintro i' z2 H12 H13 hi' ⟨s12, hD1⟩ ⟨rfl, ez2⟩
        rw [nV_len] at hi'
        have hg' : rows[i']? = some rows[i'] := List.getElem?_eq_getElem hi'
        rw [nV_get hg'] at ez2
        cases ez2
        obtain ⟨hj, y, hy⟩ := (rows11.mem _).mp (List.getElem_mem hi')
        refine ⟨rfl, _, rfl, _, rfl, u, _, _, _, rfl, rfl, (hu11.mono s12).sq, at_ar hj, ?_⟩
        refine ⟨_, hD1, ?_, s12.put nD1, ?_⟩
        · rw [nV_len, List.length_map, List.length_take]
          exact sl20 (by omega)
        · rw [upd_same, List.take_succ, hg', List.map_append, nV_app, hy]
          simp [hy, nV_one, oV]
      · rintro H12 ⟨s12, hD1⟩
        rw [nV_len, List.take_length] at hD1
        have a12 := a11.mono s12
        obtain ⟨dx12, e12⟩ := a12.at_
        refine ⟨_, rfl, o, dx12, _, rfl, e12, B, o, c, u2, pl, dl, ps ++ [(t2, vi, d)], d + 1, n, A1, rfl, a12, hu211.mono s12, hle, lf.arr.inj, fun H13 pp xs3 s13 npp hpp pe3 => ?_⟩
        have exs : xs3 = rows.map fun k => (A1 k).getD 0 := pe3.uniq rows11.people
        refine ⟨_, _, _, rfl, rfl, fl_n, .inl ⟨SqL.of (s13 _ _ hD1), SqL.of (by rw [hpp, exs])⟩, _, rfl, ?_⟩
        refine iteF ?_
        have s1113 := s12.trans s13
        have held' : ∀ k, k < n → ((∃ y, A1 k = some y) ↔ k ∉ es ++ [e1]) := fun k hk => by
          rw [left_held ch.par lf k, held k hk, List.mem_append, List.mem_singleton]
          constructor
          · rintro ⟨h1, h2⟩ (h | h)
            · exact h1 h
            · exact h2 h
          · intro h
            exact ⟨fun h1 => h (.inl h1), fun h1 => h (.inr h1)⟩
        have who' : ∀ y, (∃ k, k < n ∧ A1 k = some y) ↔ y ∈ xs ∧ y ∉ ls.take (i + 1) := fun y => by
          rw [lf.who y, who y, etake, List.mem_append, List.mem_singleton]
          constructor
          · rintro ⟨⟨h1, h2⟩, h3⟩
            exact ⟨h1, fun h => h.elim h2 h3⟩
          · rintro ⟨h1, h2⟩
            exact ⟨⟨h1, fun h => h2 (.inl h)⟩, fun h => h2 (.inr h)⟩
        have hlr13 := s1113 _ _ hlr
        have hem13 := s1113 _ _ hem11
        refine ⟨_, rfl, _, rfl, lr, rfl, ⟨_, SqL.of hlr13⟩, fun D2 nD2 => lc_it (walk_list (xs := nV rows)) (fun i' H' => Same H13 H' ∧ H' D2 = some (.lst (nV (rows.take i')))) ⟨(Same.refl H13).put nD2, upd_same⟩ (fun i' H' _ h => SqL.of (h.1 _ _ hlr13)) ?_ ?_⟩
        · rintro i' z2 H14 H15 hi' ⟨s14, hD2⟩ ⟨rfl, ez2⟩
          rw [nV_len] at hi'
          have hg' : rows[i']? = some rows[i'] := List.getElem?_eq_getElem hi'
          rw [nV_get hg'] at ez2
          cases ez2
          have hmem := (rows11.mem _).mp (List.getElem_mem hi')
          have hnot := (held' _ hmem.1).mp hmem.2
          refine ⟨rfl, _, rfl, _, rfl, em, _, rfl, .inl (SqL.of (s14 _ _ hem13)), rfl, fl_all fl_n, ?_⟩
          rw [in_n, decide_eq_false hnot]
          refine ⟨_, rfl, ?_⟩
          refine ifT rfl ?_
          refine ⟨_, rfl, _, hD2, ?_, s14.put nD2, ?_⟩
          · rw [nV_len, List.length_take]
            exact sl20 (by omega)
          · rw [upd_same, List.take_succ, hg', nV_app]
            simp [nV_one]
        · rintro H14 ⟨s14, hD2⟩
          rw [nV_len, List.take_length] at hD2
          refine ⟨_, _, _, rfl, rfl, fl_n, .inl ⟨SqL.of (s14 _ _ hlr13), SqL.of hD2⟩, _, rfl, ?_⟩
          refine iteF ?_
          have a14 := (a12.mono s13).mono s14
          exact ⟨u2, A1, ps ++ [(t2, vi, d)], d + 1, es ++ [e1], _, _, _, _, rfl, a14, ((hu211.mono s12).mono s13).mono s14, lf.arr, s14 _ _ hem13, lvs', held', who', by omega, by simp [hps]⟩
    · rintro σ H5 ⟨vi, Ai, ps, d, es, s7, s8, s9, s10, rfl, a5, hv5, ar5, hem5, lvs, held, who, hd, hps⟩
      rw [nV_len] at lvs hd hps
      rw [List.take_length] at lvs
      obtain ⟨dx5, e5⟩ := a5.at_
      have hes := lvs.len
      have hp5 := a5.sm _ _ bp
      refine ⟨_, rfl, o, dx5, _, rfl, e5, B, o, c, vi, pl, dl, ps, d, rfl, a5, ?_⟩
      refine ⟨_, rfl, p, _, rfl, SqL.of hp5, fun p1 np1 => ?_⟩
      have emp1 : em ≠ p1 := ne_of_none hem5 np1
      refine ⟨_, rfl, em, _, rfl, SqL.of ((upd_ne emp1).trans hem5), fun p2 np2 => ?_⟩
      have rev : ∀ l : List Nat, (nV l).reverse = nV l.reverse := fun l => (List.map_reverse ..).symm
      rw [rev] at np2
      rw [rev, rev]
      have p12 : p1 ≠ p2 := ne_of_none upd_same np2
      have a6 := (a5.mono (Same.up (o := .lst (nV ls.reverse)) (Same.refl H5) np1)).mono (Same.up (o := .lst (nV es.reverse)) (Same.refl _) np2)
      have hv6 := (hv5.mono (Same.up (o := .lst (nV ls.reverse)) (Same.refl H5) np1)).mono (Same.up (o := .lst (nV es.reverse)) (Same.refl _) np2)
      obtain ⟨H6, eH6⟩ : ∃ H6, H6 = upd (upd H5 p1 (.lst (nV ls.reverse))) p2 (.lst (nV es.reverse)) := ⟨_, rfl⟩
      have hp16 : H6 p1 = some (.lst (nV ls.reverse)) := by rw [eH6]; exact (upd_ne p12).trans upd_same
      have hp26 : H6 p2 = some (.lst (nV es.reverse)) := by rw [eH6]; exact upd_same
      have n1 : p1 ∉ [o, pl, dl] := by
        obtain ⟨xx, e2, _⟩ := a5.don
        simp only [List.mem_cons, List.not_mem_nil, or_false, not_or]
        exact ⟨(ne_of_none e5 np1).symm, (ne_of_none a5.pst np1).symm, (ne_of_none e2 np1).symm⟩
      have n2 : p2 ∉ [o, pl, dl] := by
        obtain ⟨xx, e2, _⟩ := a5.don
        simp only [List.mem_cons, List.not_mem_nil, or_false, not_or]
        have h3 := (Same.up (o := .lst (nV ls.reverse)) (Same.refl H5) np1)
        exact ⟨(ne_of_none (h3 _ _ e5) np2).symm, (ne_of_none (h3 _ _ a5.pst) np2).symm, (ne_of_none (h3 _ _ e2) np2).symm⟩
      rw [← eH6] at a6 hv6 ⊢
      clear eH6 np1 np2
      have sB2 := a6.in_drop
      have a6' := a6.drop
      have b1 : dropL H6 [o, pl, dl] p1 = some (.lst (nV ls.reverse)) := (dropL_ne n1).trans hp16
      have b2 : dropL H6 [o, pl, dl] p2 = some (.lst (nV es.reverse)) := (dropL_ne n2).trans hp26
      generalize dropL H6 [o, pl, dl] = B2 at sB2 a6' b1 b2
      have b2c := sB2 _ _ bc
      have lr : ls.reverse.length = ls.length := List.length_reverse
      have er : es.reverse.length = ls.length := by rw [List.length_reverse, hes]
      refine ⟨p1, p2, _, _, rfl, SqL.of hp16, SqL.of hp26, for_it (walk_zip (n := ls.length) (xs := nV ls.reverse) (ys := nV es.reverse) (by rw [nV_len, nV_len, lr, er, Nat.min_self])) (fun j σ H' => ∃ (wj hj : Addr) (Bj : Fn) (ps : Past) (d : Nat) (s7 s8 : Option V), σ = [some (.ref g), some (.ref c), some (.ref o), some (.ref l), some (.ref v), some (.ref p), some (.ref em), s7, s8, s9, s10, some (.ref hj), none] ∧ OffAt CO B2 H' o c wj pl dl ps d ∧ AT H' wj n Bj ∧ AT H' hj n Bj ∧ Lvs n par A (ls.take (ls.length - j)) (es.take (ls.length - j)) Bj ∧ d ≤ ds + ls.length + j ∧ ps.length ≤ ls.length + j)
        ⟨vi, vi, Ai, ps, d, _, _, rfl, a6', hv6, hv6, ?_, by omega, by omega⟩ (fun j σ H' _ ⟨_, _, _, _, _, _, _, _, a, _⟩ => ⟨SqL.of (a.sm _ _ b1), SqL.of (a.sm _ _ b2)⟩) ?_ ?_⟩
      · rw [Nat.sub_zero, List.take_length, hes, List.take_length]
        exact lvs
      · rintro j w1 σ H7 H8 hj ⟨wj, hj', Bj, ps, d, s7, s8, rfl, a7, hw7, hh7, lvsj, hd, hps⟩ ⟨u2, x1, y1, rfl, nu2, rfl, ex1, ey1⟩
        obtain ⟨B0, x, e, gx, ge, lf, lvs'⟩ := Lvs.back hes hj lvsj
        have ex1 : (nV ls.reverse)[j]? = some x1 := ex1
        have ey1 : (nV es.reverse)[j]? = some y1 := ey1
        rw [nV_get gx] at ex1
        rw [nV_get ge] at ey1
        cases ex1
        cases ey1
        refine ⟨_, _, rfl, SqT.of upd_same, rfl, _, _, rfl, _, _, rfl, rfl, ?_⟩
        have s8 := Same.up (o := .tup [V.int (x : Int), V.int (e : Int)]) (Same.refl H7) nu2
        have a8 := a7.mono s8
        refine ⟨_, rfl, _, rfl, _, rfl, _, rfl, c, hj', n, e, x, par, Bj, B0, rfl, a8.sm _ _ b2c, hh7.mono s8, ch, lf, fun H9 u s9' nu hu => ?_⟩
        have a9 := a8.mono s9'
        have hw9 := (hw7.mono s8).mono s9'
        have un := a9.nar hu
        obtain ⟨dx9, e9⟩ := a9.at_
        refine ⟨_, rfl, o, dx9, _, rfl, e9, of_no (by decide +kernel) (by decide +kernel) (by decide +kernel) (by decide +kernel), _, rfl, _, rfl, dropL H9 [o, pl, dl], o, c, wj, pl, dl, ps, d, n, e, x, par, Bj, B0, rfl, a9.drop, a9.sm _ _ b2c, hw9, ch, lf, by omega, by omega, fun H10 u2 t2 a10 hu2 => ?_⟩
        have hu10 := (hu.drop un).mono a10.sm
        refine ⟨_, rfl, _, _, _, rfl, rfl, fl_ar, .inr ⟨hu2.sq, hu10.sq⟩, _, rfl, ?_⟩
        refine iteF ?_
        exact ⟨u2, u, B0, ps ++ [(t2, wj, d)], d + 1, _, _, rfl, a10.re (a9.in_drop.trans a10.sm) a9.no a9.np a9.nd, hu2, hu10, lvs', by omega, by rw [List.length_append]; simp; omega⟩
      · rintro σ H7 ⟨wj, hj', Bj, ps, d, s7, s8, rfl, a7, hw7, hh7, lvsj, hd, hps⟩
        rw [Nat.sub_self, List.take_zero, List.take_zero] at lvsj
        have eB := lvsj.nil_eq
        subst eB
        have sG7 := (sG.trans sB2).trans a7.sm
        exact ⟨_, rfl, _, rfl, hj', v, _, rfl, rfl, fl_ar, .inr ⟨hh7.sq, (hv.mono sG7).sq⟩, q H7 sG7⟩
end
end K89
set_option Elab.async false
set_option linter.all false
set_option maxRecDepth 100000
set_option maxHeartbeats 1000000
namespace K89
open PySem PySem.Spec PyProof.Rows L2

def spLaw (K : PySem.W.Frag) : Sp := fun vs H Q _ => ∃ (a : Addr) (ns : List Int), vs = [.ref a] ∧ SqL K H a (ns.map V.int) ∧ ns.length ≤ 63 ∧ ∀ H', Q (.bl true) H'
section
variable {P : Program} {w : World} {K : PySem.W.Frag} {mg : Str → Option Value} {base : Heap} {CT CU CO : Addr}
abbrev s_law : Stmt := top 59
abbrev N_law : List Str := ["_law_script", "_law_cell_here", "_law_generator_here", "_law_above", "_law_number", "_law_order", "_law_numbers_here", "_law_office"]
theorem sc_law : FnScope N_law ["_law_script"] (defScope s_law) := ⟨rfl, rfl, rfl, by decide +kernel, rfl, by decide +kernel, by decide +kernel⟩
theorem ok_law {f : Addr} {fd : FuncData} (F : Fun K "law" "law" s_law f fd) (T : Txt K mg CT CU CO) (c__law_generator : Cal P w K mg base 2 "_law_generator" ["_law_script", "_law_index"] (spGen K))
    (c__law_random_chart : Cal P w K mg base 3 "_law_random_chart" ["_law_generator_here", "_law_most"] spRChart) (c__law_random : Cal P w K mg base 2 "_law_random" ["_law_generator_here", "_law_bound"] spRandom)
    (c_count_orders : Cal P w K mg base 5 "count_orders" ["chart"] spCount) (c_order_at : Cal P w K mg base 5 "order_at" ["chart", "index"] spOrderAt) (c__law_numbers : Cal P w K mg base 3 "_law_numbers" ["_law_generator_here", "_law_count"] spNumbers)
    (c_in_order : CalCM P w K mg base 7 "Office" CO "in_order" (spInOrder CO)) (c_arrangement : CalP P w K mg base 1 CO "arrangement" (spArrP CO)) (c_order_of : Cal P w K mg base 5 "order_of" ["chart", "arrangement"] spOrderOf)
    (c_order_index : Cal P w K mg base 5 "order_index" ["chart", "order"] spIndex) (c__law_heads_right : Cal P w K mg base 7 "_law_heads_right" ["_law_above", "_law_office", "_law_numbers_here"] (spHeads CO))
    (c__law_back_right : Cal P w K mg base 8 "_law_back_right" ["_law_generator_here", "_law_above", "_law_office", "_law_numbers_here"] (spBack CO)) :
    FnOk P w K mg base CX0 9 f fd ["_law_script"] (spLaw K) := by
  refine F.ok sc_law (fun vs H Q E h => ?_) (fun cdv A outer s H vs Q E hr h => ?_)
  · obtain ⟨a, ns, rfl, _⟩ := h
    rfl
  · obtain ⟨a, ns, rfl, hS, hlen, q⟩ := h
    have hrm := hr
    refine ⟨_, (pss_cons (ps_for PassesOwn.never rfl (pi_range1 (by rfl) T.range (pa_cons pe_int pa_nil)) (pg_name (i := 1) sc_law.nd rfl (Or.inl rfl))
    (pss_cons (ps_set (i := 2) sc_law.nd rfl (Or.inl rfl) (pe_cal c__law_generator (hr.mono (by decide)) (by rfl) (pa_cons (pv 0) (pa_cons (pv 1) pa_nil))))
  (pss_cons (ps_set (i := 3) sc_law.nd rfl (Or.inl rfl) (pe_cal c__law_random_chart (hr.mono (by decide)) (by rfl) (pa_cons (pv 2) (pa_cons pe_int pa_nil))))
  (pss_cons (ps_set (i := 4) sc_law.nd rfl (Or.inl rfl) (pe_cal c__law_random (hr.mono (by decide)) (by rfl) (pa_cons (pv 2) (pa_cons (pe_cal c_count_orders (hr.mono (by decide)) (by rfl) (pa_cons (pv 3) pa_nil)) pa_nil))))
  (pss_cons (ps_set (i := 5) sc_law.nd rfl (Or.inl rfl) (pe_cal c_order_at (hr.mono (by decide)) (by rfl) (pa_cons (pv 3) (pa_cons (pv 4) pa_nil))))
  (pss_cons (ps_set (i := 6) sc_law.nd rfl (Or.inl rfl) (pe_cal c__law_numbers (hr.mono (by decide)) (by rfl) (pa_cons (pv 2) (pa_cons (pe_callB call_lenK (by rfl) T.len (by decide +kernel) (pa_cons (pv 3) pa_nil)) pa_nil))))
  (pss_cons (ps_set (i := 7) sc_law.nd rfl (Or.inl rfl) (pe_ccm c_in_order (hr.mono (by decide)) (by rfl) (pa_cons (pv 3) (pa_cons (pv 5) (pa_cons (pv 6) pa_nil)))))
  (pss_cons (ps_if (PW.pt (pw_or (pt_cmpR (op_neS hr.units) (pe_cal c_order_of (hr.mono (by decide)) (by rfl) (pa_cons (pv 3) (pa_cons (pe_prp c_arrangement (hr.mono (by decide)) (pv 7) rfl) pa_nil))) (pv 5) (nomark _)) (pw_or1 (pt_cmpR op_ne (pe_cal c_order_index (hr.mono (by decide)) (by rfl) (pa_cons (pv 3) (pa_cons (pv 5) pa_nil))) (pv 4) (nomark _)))))
    pss_never pss_nil)
  (pss_cons (ps_if (pt_not (pt_val (pe_cal c__law_heads_right (hr.mono (by decide)) (by rfl) (pa_cons (pv 3) (pa_cons (pv 7) (pa_cons (pv 6) pa_nil))))))
    pss_never pss_nil)
  (pss_one (ps_if (pt_not (pt_val (pe_cal c__law_back_right (hr.mono (by decide)) (by rfl) (pa_cons (pv 2) (pa_cons (pv 3) (pa_cons (pv 7) (pa_cons (pv 6) pa_nil)))))))
    pss_never pss_nil)))))))))))
  (pss_one (ps_ret pe_bl))), ?_⟩
    refine ⟨_, rfl, by omega, by omega, for_it walk_range (fun i σ H' => ∃ (s1 s2 s3 s4 s5 s6 s7 : Option V), σ = [some (.ref a), s1, s2, s3, s4, s5, s6, s7] ∧ Same H H') ⟨_, _, _, _, _, _, _, rfl, Same.refl H⟩ (fun _ _ _ _ _ => True.intro) ?_ ?_⟩
    · rintro i z σ H0 H1 hi ⟨_, _, _, _, _, _, _, rfl, sm⟩ ⟨rfl, ez⟩
      have ez : z = V.int (i : Int) := by rw [ez]; simp
      subst ez
      have hi : i < 3 := by simpa using hi
      refine ⟨_, rfl, _, rfl, a, i, ns, rfl, by omega, sm.seq hS, by omega, fun H2 g s2 ng hg => ?_⟩
      refine ⟨_, rfl, H1, g, 2000, rfl, s2, ng, hg, by omega, fun H3 c n par s3 hg3 nc cg hc ch => ?_⟩
      have hpos := ch.pos
      have hle := ch.le
      have hfr := Fr.start ch.par hpos
      have hcl := cnt_le ch.par hfr
      have hfl := fact_le hle
      have hcp : 0 < cnt n par n [0] := by
        have h1 := cnt_hook ch.par n [0] hfr
        have h2 : ∀ m, 0 < fact m := fun m => by
          induction m with
          | zero => decide
          | succ m ih => exact Nat.mul_pos (by omega) ih
        have h2 := h2 n
        rw [← h1] at h2
        exact Nat.pos_of_ne_zero fun e => by rw [e, Nat.zero_mul] at h2; omega
      have gen : ∀ {Ha Hb : Hp} {m : Int}, GenAt Ha g m → Same Ha Hb → GenAt Hb g m := fun h s => by
        obtain ⟨x, y, z, h1, _⟩ := id h
        exact h.mono ((s _ _ h1).trans h1.symm) (Int.le_refl _)
      refine ⟨_, rfl, _, rfl, c, n, par, rfl, hc, ch, fun H4 s4 => ?_⟩
      refine ⟨drop1 H4 g, g, 2200, cnt n par n [0], rfl, drop_same, drop_at, gen hg3 s4, by omega, hcp, by omega, fun H5 z s5 hg5 hz => ?_⟩
      have hc5 : H5 c = some (.tup (chV n par)) := s5 _ _ ((drop_ne cg).trans (s4 _ _ hc))
      have t5 : Same H1 H5 := (to_drop (s3.trans s4) ng).trans s5
      refine ⟨_, rfl, _, rfl, c, n, z, par, rfl, hc5, ch, hz, fun H6 l ord s6 nl hl oo rk => ?_⟩
      have hg6 := gen hg5 s6
      have hc6 := s6 _ _ hc5
      have lg : l ≠ g := by
        obtain ⟨x, y, z, h1, _⟩ := id hg5
        exact (ne_of_none h1 nl).symm
      refine ⟨_, rfl, _, rfl, c, _, rfl, .inr (SqT.of hc6), drop1 H6 g, g, 2203, n, by rw [chV_len]; rfl, drop_same, drop_at, hg6, by omega, hpos, hle, fun H7 r xs s7 hg7 nr rg hr hxn sort => ?_⟩
      have hc7 : H7 c = some (.tup (chV n par)) := s7 _ _ ((drop_ne cg).trans hc6)
      have hl7 : H7 l = some (.lst (nV ord)) := s7 _ _ ((drop_ne lg).trans hl)
      have t7 : Same H1 H7 := (to_drop (t5.trans s6) ng).trans s7
      have od := Ord.of ch.par hpos oo
      refine ⟨rfl, _, rfl, _, rfl, _, rfl, c, l, r, n, par, ord, xs, rfl, hc7, hl7, hr, ch, od, hxn, sort, fun H8 o v pl dl a0 hv => ?_⟩
      have arr := arOf_arr ch.par od hxn sort
      have ppl := arOf_people ch.par od hxn sort
      have rws := arOf_rows ch.par od hxn sort
      have full : ∀ k, k < n → ∃ y, arOf ord xs k = some y := fun k hk => by
        obtain ⟨j, h1, h2, _, e2⟩ := arOf_some (xs := xs) od hxn hk
        exact ⟨_, e2⟩
      have hg8 := gen hg7 a0.sm
      obtain ⟨dx, e⟩ := a0.at_
      refine ⟨_, rfl, _, rfl, o, dx, _, rfl, e, H7, o, c, v, pl, dl, [], 0, rfl, a0, c, v, n, par, arOf ord xs, rfl, a0.sm _ _ hc7, hv, ch, arr, fun H9 l2 rows s9 nl2 hl2 rows9 => ?_⟩
      have a9 := a0.mono s9
      have er := rows9.uniq arr.inj rws
      subst er
      refine ⟨_, rfl, l2, l, _, rfl, rfl, fl_n, .inl ⟨SqL.of hl2, SqL.of (a9.sm _ _ hl7)⟩, _, rfl, ?_⟩
      refine iteF ?_
      refine ⟨_, rfl, _, rfl, c, l, n, par, rows, rfl, a9.sm _ _ hc7, a9.sm _ _ hl7, ch, oo, fun H10 s10 => ?_⟩
      have a10 := a9.mono s10
      have hv10 := (hv.mono s9).mono s10
      refine ⟨_, rfl, rfl, _, rfl, ?_⟩
      refine ifF (nI_f (by rw [rk])) ?_
      have hg10 := gen (gen hg8 s9) s10
      obtain ⟨gx, gy, gz, hgl, _⟩ := id hg7
      have gno : g ∉ [o, pl, dl] := by
        simp only [List.mem_cons, List.not_mem_nil, or_false, not_or]
        exact ⟨fun h => (by rw [h, a0.no] at hgl; cases hgl), fun h => (by rw [h, a0.np] at hgl; cases hgl), fun h => (by rw [h, a0.nd] at hgl; cases hgl)⟩
      have sG : Same H7 (dropL H10 [o, pl, dl]) := a10.in_drop
      have aG := a10.drop
      have hvG : AT (dropL H10 [o, pl, dl]) v n (arOf rows xs) := hv10.drop (a10.nar hv10)
      generalize dropL H10 [o, pl, dl] = G at sG aG hvG
      have hgG := gen hg7 sG
      have hglG := sG _ _ hgl
      refine ⟨_, rfl, _, rfl, _, rfl, G, o, c, v, pl, dl, r, n, par, arOf rows xs, xs, rfl, aG, sG _ _ hc7, sG _ _ hr, hvG, ch, arr, ppl, hxn, fun H11 dl' ds' a11 hds => ?_⟩
      refine ⟨_, rfl, ?_⟩
      refine ifF rfl ?_
      have dn : ∀ {b : Addr}, G b = none → drop1 G g b = none := fun {b} h => by
        unfold drop1
        split
        · rfl
        · exact h
      have gpl : g ≠ pl := fun h => by rw [h, a11.np] at hglG; cases hglG
      have gdl : g ≠ dl' := fun h => by rw [h, a11.nd] at hglG; cases hglG
      have sE : Same H (drop1 G g) := sm.trans (to_drop (t7.trans sG) ng)
      refine ⟨_, rfl, _, rfl, _, rfl, _, rfl, drop1 G g, g, o, c, v, pl, dl', r, 2403, n, ds', par, arOf rows xs, xs, rfl, a11.re (drop_same.trans a11.sm) (dn a11.no) (dn a11.np) (dn a11.nd), hds, (gen hgG a11.sm).mono rfl (by omega), by omega, drop_at, gpl, gdl, (drop_ne cg).trans (sG _ _ hc7), (drop_ne rg).trans (sG _ _ hr), hvG.monoG (Same.refl _) hglG, ch, arr, ppl, hxn, full, fun H12 s12 => ?_⟩
      refine ⟨_, rfl, ?_⟩
      refine ifF rfl ?_
      exact ⟨_, _, _, _, _, _, _, rfl, sE.trans s12⟩
    · rintro σ H1 ⟨_, _, _, _, _, _, _, rfl, sm⟩
      exact q _
end
end K89
set_option Elab.async false
set_option linter.all false
set_option maxRecDepth 100000
set_option maxHeartbeats 4000000
namespace K89
open PySem PySem.Spec PyProof.Rows L2
theorem all_mk {l : PySem.W.OpenLaw} {w : World} {K : PySem.W.Frag} {h : Heap} {mg : Str → Option Value} {fa CT CU CO : Addr} (X : K.In h) (G : h.Ns mainGlobals mg) (hfa : mg "law" = some (.ref fa))
    {f0 : Addr} {od0 an0 : Option Addr} {sl0 : Array (Option Value)} {oc0 kV0 dc0 pm0 cd0 ct0 : Value}
    {f1 : Addr} {od1 an1 : Option Addr} {sl1 : Array (Option Value)} {oc1 kV1 dc1 pm1 cd1 ct1 : Value}
    {f2 : Addr} {od2 an2 : Option Addr} {sl2 : Array (Option Value)} {oc2 kV2 dc2 pm2 cd2 ct2 : Value}
    {f3 : Addr} {od3 an3 : Option Addr} {sl3 : Array (Option Value)} {oc3 kV3 dc3 pm3 cd3 ct3 : Value}
    {f4 : Addr} {od4 an4 : Option Addr} {sl4 : Array (Option Value)} {oc4 kV4 dc4 pm4 cd4 ct4 : Value}
    {f5 : Addr} {od5 an5 : Option Addr} {sl5 : Array (Option Value)} {oc5 kV5 dc5 pm5 cd5 ct5 : Value}
    {f6 : Addr} {od6 an6 : Option Addr} {sl6 : Array (Option Value)} {oc6 kV6 dc6 pm6 cd6 ct6 : Value}
    {f7 : Addr} {od7 an7 : Option Addr} {sl7 : Array (Option Value)} {oc7 kV7 dc7 pm7 cd7 ct7 : Value}
    {f8 : Addr} {od8 an8 : Option Addr} {sl8 : Array (Option Value)} {oc8 kV8 dc8 pm8 cd8 ct8 : Value}
    {f9 : Addr} {od9 an9 : Option Addr} {sl9 : Array (Option Value)} {oc9 kV9 dc9 pm9 cd9 ct9 : Value}
    {f10 : Addr} {od10 an10 : Option Addr} {sl10 : Array (Option Value)} {oc10 kV10 dc10 pm10 cd10 ct10 : Value}
    {f11 : Addr} {od11 an11 : Option Addr} {sl11 : Array (Option Value)} {oc11 kV11 dc11 pm11 cd11 ct11 : Value}
    {f12 : Addr} {od12 an12 : Option Addr} {sl12 : Array (Option Value)} {oc12 kV12 dc12 pm12 cd12 ct12 : Value}
    {f13 : Addr} {od13 an13 : Option Addr} {sl13 : Array (Option Value)} {oc13 kV13 dc13 pm13 cd13 ct13 : Value}
    {f14 : Addr} {od14 an14 : Option Addr} {sl14 : Array (Option Value)} {oc14 kV14 dc14 pm14 cd14 ct14 : Value}
    {f15 : Addr} {od15 an15 : Option Addr} {sl15 : Array (Option Value)} {oc15 kV15 dc15 pm15 cd15 ct15 : Value}
    {f16 : Addr} {od16 an16 : Option Addr} {sl16 : Array (Option Value)} {oc16 kV16 dc16 pm16 cd16 ct16 : Value}
    {f17 : Addr} {od17 an17 : Option Addr} {sl17 : Array (Option Value)} {oc17 kV17 dc17 pm17 cd17 ct17 : Value}
    {f18 : Addr} {od18 an18 : Option Addr} {sl18 : Array (Option Value)} {oc18 kV18 dc18 pm18 cd18 ct18 : Value}
    {f19 : Addr} {od19 an19 : Option Addr} {sl19 : Array (Option Value)} {oc19 kV19 dc19 pm19 cd19 ct19 : Value}
    {f20 : Addr} {od20 an20 : Option Addr} {sl20 : Array (Option Value)} {oc20 kV20 dc20 pm20 cd20 ct20 : Value}
    {f21 : Addr} {od21 an21 : Option Addr} {sl21 : Array (Option Value)} {oc21 kV21 dc21 pm21 cd21 ct21 : Value}
    {f22 : Addr} {od22 an22 : Option Addr} {sl22 : Array (Option Value)} {oc22 kV22 dc22 pm22 cd22 ct22 : Value}
    {f23 : Addr} {od23 an23 : Option Addr} {sl23 : Array (Option Value)} {oc23 kV23 dc23 pm23 cd23 ct23 : Value}
    {f24 : Addr} {od24 an24 : Option Addr} {sl24 : Array (Option Value)} {oc24 kV24 dc24 pm24 cd24 ct24 : Value}
    {f25 : Addr} {od25 an25 : Option Addr} {sl25 : Array (Option Value)} {oc25 kV25 dc25 pm25 cd25 ct25 : Value}
    {f26 : Addr} {od26 an26 : Option Addr} {sl26 : Array (Option Value)} {oc26 kV26 dc26 pm26 cd26 ct26 : Value}
    {f27 : Addr} {od27 an27 : Option Addr} {sl27 : Array (Option Value)} {oc27 kV27 dc27 pm27 cd27 ct27 : Value}
    {f28 : Addr} {od28 an28 : Option Addr} {sl28 : Array (Option Value)} {oc28 kV28 dc28 pm28 cd28 ct28 : Value}
    {f29 : Addr} {od29 an29 : Option Addr} {sl29 : Array (Option Value)} {oc29 kV29 dc29 pm29 cd29 ct29 : Value}
    {f30 : Addr} {od30 an30 : Option Addr} {sl30 : Array (Option Value)} {oc30 kV30 dc30 pm30 cd30 ct30 : Value}
    {f31 : Addr} {od31 an31 : Option Addr} {sl31 : Array (Option Value)} {oc31 kV31 dc31 pm31 cd31 ct31 : Value}
    {f32 : Addr} {od32 an32 : Option Addr} {sl32 : Array (Option Value)} {oc32 kV32 dc32 pm32 cd32 ct32 : Value}
    {f33 : Addr} {od33 an33 : Option Addr} {sl33 : Array (Option Value)} {oc33 kV33 dc33 pm33 cd33 ct33 : Value}
    {f34 : Addr} {od34 an34 : Option Addr} {sl34 : Array (Option Value)} {oc34 kV34 dc34 pm34 cd34 ct34 : Value}
    {f35 : Addr} {od35 an35 : Option Addr} {sl35 : Array (Option Value)} {oc35 kV35 dc35 pm35 cd35 ct35 : Value}
    {p36 : Addr} {r36 : List Value}
    {f36 : Addr} {od36 an36 : Option Addr} {sl36 : Array (Option Value)} {oc36 kV36 dc36 pm36 cd36 ct36 : Value}
    {p37 : Addr} {r37 : List Value}
    {f37 : Addr} {od37 an37 : Option Addr} {sl37 : Array (Option Value)} {oc37 kV37 dc37 pm37 cd37 ct37 : Value}
    {p38 : Addr} {r38 : List Value}
    {f38 : Addr} {od38 an38 : Option Addr} {sl38 : Array (Option Value)} {oc38 kV38 dc38 pm38 cd38 ct38 : Value}
    {f39 : Addr} {od39 an39 : Option Addr} {sl39 : Array (Option Value)} {oc39 kV39 dc39 pm39 cd39 ct39 : Value}
    {f40 : Addr} {od40 an40 : Option Addr} {sl40 : Array (Option Value)} {oc40 kV40 dc40 pm40 cd40 ct40 : Value}
    {f41 : Addr} {od41 an41 : Option Addr} {sl41 : Array (Option Value)} {oc41 kV41 dc41 pm41 cd41 ct41 : Value}
    {f42 : Addr} {od42 an42 : Option Addr} {sl42 : Array (Option Value)} {oc42 kV42 dc42 pm42 cd42 ct42 : Value}
    {f43 : Addr} {od43 an43 : Option Addr} {sl43 : Array (Option Value)} {oc43 kV43 dc43 pm43 cd43 ct43 : Value}
    {p44 : Addr} {r44 : List Value}
    {f44 : Addr} {od44 an44 : Option Addr} {sl44 : Array (Option Value)} {oc44 kV44 dc44 pm44 cd44 ct44 : Value}
    {f45 : Addr} {od45 an45 : Option Addr} {sl45 : Array (Option Value)} {oc45 kV45 dc45 pm45 cd45 ct45 : Value}
    {f46 : Addr} {od46 an46 : Option Addr} {sl46 : Array (Option Value)} {oc46 kV46 dc46 pm46 cd46 ct46 : Value}
    {f47 : Addr} {od47 an47 : Option Addr} {sl47 : Array (Option Value)} {oc47 kV47 dc47 pm47 cd47 ct47 : Value}
    {f48 : Addr} {od48 an48 : Option Addr} {sl48 : Array (Option Value)} {oc48 kV48 dc48 pm48 cd48 ct48 : Value}
    {f49 : Addr} {od49 an49 : Option Addr} {sl49 : Array (Option Value)} {oc49 kV49 dc49 pm49 cd49 ct49 : Value}
    {f50 : Addr} {od50 an50 : Option Addr} {sl50 : Array (Option Value)} {oc50 kV50 dc50 pm50 cd50 ct50 : Value}
    {f51 : Addr} {od51 an51 : Option Addr} {sl51 : Array (Option Value)} {oc51 kV51 dc51 pm51 cd51 ct51 : Value}
    {f52 : Addr} {od52 an52 : Option Addr} {sl52 : Array (Option Value)} {oc52 kV52 dc52 pm52 cd52 ct52 : Value}
    {f53 : Addr} {od53 an53 : Option Addr} {sl53 : Array (Option Value)} {oc53 kV53 dc53 pm53 cd53 ct53 : Value}
    {f54 : Addr} {od54 an54 : Option Addr} {sl54 : Array (Option Value)} {oc54 kV54 dc54 pm54 cd54 ct54 : Value}
    (nCT : PySem.W.nsIn K mainGlobals "Tree" = some (some (.ref CT)))
    (nCU : PySem.W.nsIn K mainGlobals "Unplaced" = some (some (.ref CU)))
    (nCO : PySem.W.nsIn K mainGlobals "Office" = some (some (.ref CO)))
    (pgCT : PySem.W.plainGet K CT Str.empty = true)
    (hdCT : PySem.W.hasDictIn K CT = true)
    (poCT : PySem.W.plainOver K CT = true)
    (saCT : PySem.W.findIn K (.ref CT) "__setattr__" = some (some (.builtin "object.__setattr__")))
    (mkCT : PySem.W.makesIn K CT = true)
    (kcCT : PySem.W.keepIn K (.ref CT) = true)
    (pgCU : PySem.W.plainGet K CU Str.empty = true)
    (hdCU : PySem.W.hasDictIn K CU = true)
    (poCU : PySem.W.plainOver K CU = true)
    (saCU : PySem.W.findIn K (.ref CU) "__setattr__" = some (some (.builtin "object.__setattr__")))
    (mkCU : PySem.W.makesIn K CU = true)
    (kcCU : PySem.W.keepIn K (.ref CU) = true)
    (pgCO : PySem.W.plainGet K CO Str.empty = true)
    (hdCO : PySem.W.hasDictIn K CO = true)
    (poCO : PySem.W.plainOver K CO = true)
    (saCO : PySem.W.findIn K (.ref CO) "__setattr__" = some (some (.builtin "object.__setattr__")))
    (mkCO : PySem.W.makesIn K CO = true)
    (kcCO : PySem.W.keepIn K (.ref CO) = true)
    (tAbove : PySem.W.findIn K (.ref CT) "above" = some none)
    (tBelow : PySem.W.findIn K (.ref CT) "below" = some none)
    (uTree : PySem.W.findIn K (.ref CU) "tree" = some none)
    (uWeights : PySem.W.findIn K (.ref CU) "weights" = some none)
    (uLeft : PySem.W.findIn K (.ref CU) "left" = some none)
    (uNext : PySem.W.findIn K (.ref CU) "next_posts" = some none)
    (uWays : PySem.W.findIn K (.ref CU) "ways" = some none)
    (oAbove : PySem.W.findIn K (.ref CO) "above" = some none)
    (oNow : PySem.W.findIn K (.ref CO) "now" = some none)
    (oPast : PySem.W.findIn K (.ref CO) "past" = some none)
    (oDone : PySem.W.findIn K (.ref CO) "done" = some none)
    (z_isinstance : PySem.W.nsIn K mainGlobals "isinstance" = some none)
    (z_int : PySem.W.nsIn K mainGlobals "int" = some none)
    (z_bool : PySem.W.nsIn K mainGlobals "bool" = some none)
    (z_tuple : PySem.W.nsIn K mainGlobals "tuple" = some none)
    (z_list : PySem.W.nsIn K mainGlobals "list" = some none)
    (z_enumerate : PySem.W.nsIn K mainGlobals "enumerate" = some none)
    (z_len : PySem.W.nsIn K mainGlobals "len" = some none)
    (z_range : PySem.W.nsIn K mainGlobals "range" = some none)
    (z_min : PySem.W.nsIn K mainGlobals "min" = some none)
    (z_sorted : PySem.W.nsIn K mainGlobals "sorted" = some none)
    (z_zip : PySem.W.nsIn K mainGlobals "zip" = some none)
    (z_sum : PySem.W.nsIn K mainGlobals "sum" = some none)
    (z_dict : PySem.W.nsIn K mainGlobals "dict" = some none)
    (z_max : PySem.W.nsIn K mainGlobals "max" = some none)
    (a0 : PySem.W.nsIn K mainGlobals "is_whole" = some (some (.ref f0)))
    (l0 : K.lookup f0 = some ⟨oc0, od0, .func (PySem.W.fnOf "is_whole" "is_whole" (defArgs s_is_whole) (defBody s_is_whole) (defScope s_is_whole) .none kV0 dc0 pm0 an0 cd0 ct0), sl0⟩)
    (c0 : PySem.W.codeIn K cd0 "is_whole" = true)
    (k0 : PySem.W.keepIn K (.ref f0) = true)
    (a1 : PySem.W.nsIn K mainGlobals "is_person" = some (some (.ref f1)))
    (l1 : K.lookup f1 = some ⟨oc1, od1, .func (PySem.W.fnOf "is_person" "is_person" (defArgs s_is_person) (defBody s_is_person) (defScope s_is_person) .none kV1 dc1 pm1 an1 cd1 ct1), sl1⟩)
    (c1 : PySem.W.codeIn K cd1 "is_person" = true)
    (k1 : PySem.W.keepIn K (.ref f1) = true)
    (a2 : PySem.W.nsIn K mainGlobals "chart_fault" = some (some (.ref f2)))
    (l2 : K.lookup f2 = some ⟨oc2, od2, .func (PySem.W.fnOf "chart_fault" "chart_fault" (defArgs s_chart_fault) (defBody s_chart_fault) (defScope s_chart_fault) .none kV2 dc2 pm2 an2 cd2 ct2), sl2⟩)
    (c2 : PySem.W.codeIn K cd2 "chart_fault" = true)
    (k2 : PySem.W.keepIn K (.ref f2) = true)
    (a3 : PySem.W.nsIn K mainGlobals "require_chart" = some (some (.ref f3)))
    (l3 : K.lookup f3 = some ⟨oc3, od3, .func (PySem.W.fnOf "require_chart" "require_chart" (defArgs s_require_chart) (defBody s_require_chart) (defScope s_require_chart) .none kV3 dc3 pm3 an3 cd3 ct3), sl3⟩)
    (c3 : PySem.W.codeIn K cd3 "require_chart" = true)
    (k3 : PySem.W.keepIn K (.ref f3) = true)
    (a4 : PySem.W.nsIn K mainGlobals "first_fault" = some (some (.ref f4)))
    (l4 : K.lookup f4 = some ⟨oc4, od4, .func (PySem.W.fnOf "first_fault" "first_fault" (defArgs s_first_fault) (defBody s_first_fault) (defScope s_first_fault) .none kV4 dc4 pm4 an4 cd4 ct4), sl4⟩)
    (c4 : PySem.W.codeIn K cd4 "first_fault" = true)
    (k4 : PySem.W.keepIn K (.ref f4) = true)
    (a5 : PySem.W.nsIn K mainGlobals "repeats" = some (some (.ref f5)))
    (l5 : K.lookup f5 = some ⟨oc5, od5, .func (PySem.W.fnOf "repeats" "repeats" (defArgs s_repeats) (defBody s_repeats) (defScope s_repeats) .none kV5 dc5 pm5 an5 cd5 ct5), sl5⟩)
    (c5 : PySem.W.codeIn K cd5 "repeats" = true)
    (k5 : PySem.W.keepIn K (.ref f5) = true)
    (a6 : PySem.W.nsIn K mainGlobals "is_out_of_order" = some (some (.ref f6)))
    (l6 : K.lookup f6 = some ⟨oc6, od6, .func (PySem.W.fnOf "is_out_of_order" "is_out_of_order" (defArgs s_is_out_of_order) (defBody s_is_out_of_order) (defScope s_is_out_of_order) .none kV6 dc6 pm6 an6 cd6 ct6), sl6⟩)
    (c6 : PySem.W.codeIn K cd6 "is_out_of_order" = true)
    (k6 : PySem.W.keepIn K (.ref f6) = true)
    (a7 : PySem.W.nsIn K mainGlobals "arrangement_fault" = some (some (.ref f7)))
    (l7 : K.lookup f7 = some ⟨oc7, od7, .func (PySem.W.fnOf "arrangement_fault" "arrangement_fault" (defArgs s_arrangement_fault) (defBody s_arrangement_fault) (defScope s_arrangement_fault) .none kV7 dc7 pm7 an7 cd7 ct7), sl7⟩)
    (c7 : PySem.W.codeIn K cd7 "arrangement_fault" = true)
    (k7 : PySem.W.keepIn K (.ref f7) = true)
    (a8 : PySem.W.nsIn K mainGlobals "require_arrangement" = some (some (.ref f8)))
    (l8 : K.lookup f8 = some ⟨oc8, od8, .func (PySem.W.fnOf "require_arrangement" "require_arrangement" (defArgs s_require_arrangement) (defBody s_require_arrangement) (defScope s_require_arrangement) .none kV8 dc8 pm8 an8 cd8 ct8), sl8⟩)
    (c8 : PySem.W.codeIn K cd8 "require_arrangement" = true)
    (k8 : PySem.W.keepIn K (.ref f8) = true)
    (a9 : PySem.W.nsIn K mainGlobals "require_holder" = some (some (.ref f9)))
    (l9 : K.lookup f9 = some ⟨oc9, od9, .func (PySem.W.fnOf "require_holder" "require_holder" (defArgs s_require_holder) (defBody s_require_holder) (defScope s_require_holder) .none kV9 dc9 pm9 an9 cd9 ct9), sl9⟩)
    (c9 : PySem.W.codeIn K cd9 "require_holder" = true)
    (k9 : PySem.W.keepIn K (.ref f9) = true)
    (a10 : PySem.W.nsIn K mainGlobals "posts_of_people" = some (some (.ref f10)))
    (l10 : K.lookup f10 = some ⟨oc10, od10, .func (PySem.W.fnOf "posts_of_people" "posts_of_people" (defArgs s_posts_of_people) (defBody s_posts_of_people) (defScope s_posts_of_people) .none kV10 dc10 pm10 an10 cd10 ct10), sl10⟩)
    (c10 : PySem.W.codeIn K cd10 "posts_of_people" = true)
    (k10 : PySem.W.keepIn K (.ref f10) = true)
    (a11 : PySem.W.nsIn K mainGlobals "require_people" = some (some (.ref f11)))
    (l11 : K.lookup f11 = some ⟨oc11, od11, .func (PySem.W.fnOf "require_people" "require_people" (defArgs s_require_people) (defBody s_require_people) (defScope s_require_people) .none kV11 dc11 pm11 an11 cd11 ct11), sl11⟩)
    (c11 : PySem.W.codeIn K cd11 "require_people" = true)
    (k11 : PySem.W.keepIn K (.ref f11) = true)
    (a12 : PySem.W.findIn K (.ref CT) "path" = some (some (.ref f12)))
    (i12 : PySem.W.isFn K (.ref f12) = true)
    (l12 : K.lookup f12 = some ⟨oc12, od12, .func (PySem.W.fnOf "path" "Tree.path" (defArgs s_Tree_path) (defBody s_Tree_path) (defScope s_Tree_path) .none kV12 dc12 pm12 an12 cd12 ct12), sl12⟩)
    (c12 : PySem.W.codeIn K cd12 "Tree.path" = true)
    (k12 : PySem.W.keepIn K (.ref f12) = true)
    (a13 : PySem.W.findIn K (.ref CT) "__init__" = some (some (.ref f13)))
    (i13 : PySem.W.isFn K (.ref f13) = true)
    (l13 : K.lookup f13 = some ⟨oc13, od13, .func (PySem.W.fnOf "__init__" "Tree.__init__" (defArgs s_Tree_init) (defBody s_Tree_init) (defScope s_Tree_init) .none kV13 dc13 pm13 an13 cd13 ct13), sl13⟩)
    (c13 : PySem.W.codeIn K cd13 "Tree.__init__" = true)
    (k13 : PySem.W.keepIn K (.ref f13) = true)
    (a14 : PySem.W.findIn K (.ref CT) "sizes" = some (some (.ref f14)))
    (i14 : PySem.W.isFn K (.ref f14) = true)
    (l14 : K.lookup f14 = some ⟨oc14, od14, .func (PySem.W.fnOf "sizes" "Tree.sizes" (defArgs s_Tree_sizes) (defBody s_Tree_sizes) (defScope s_Tree_sizes) .none kV14 dc14 pm14 an14 cd14 ct14), sl14⟩)
    (c14 : PySem.W.codeIn K cd14 "Tree.sizes" = true)
    (k14 : PySem.W.keepIn K (.ref f14) = true)
    (a15 : PySem.W.nsIn K mainGlobals "is_open" = some (some (.ref f15)))
    (l15 : K.lookup f15 = some ⟨oc15, od15, .func (PySem.W.fnOf "is_open" "is_open" (defArgs s_is_open) (defBody s_is_open) (defScope s_is_open) .none kV15 dc15 pm15 an15 cd15 ct15), sl15⟩)
    (c15 : PySem.W.codeIn K cd15 "is_open" = true)
    (k15 : PySem.W.keepIn K (.ref f15) = true)
    (a16 : PySem.W.nsIn K mainGlobals "move_up" = some (some (.ref f16)))
    (l16 : K.lookup f16 = some ⟨oc16, od16, .func (PySem.W.fnOf "move_up" "move_up" (defArgs s_move_up) (defBody s_move_up) (defScope s_move_up) .none kV16 dc16 pm16 an16 cd16 ct16), sl16⟩)
    (c16 : PySem.W.codeIn K cd16 "move_up" = true)
    (k16 : PySem.W.keepIn K (.ref f16) = true)
    (a17 : PySem.W.nsIn K mainGlobals "leave_one" = some (some (.ref f17)))
    (l17 : K.lookup f17 = some ⟨oc17, od17, .func (PySem.W.fnOf "leave_one" "leave_one" (defArgs s_leave_one) (defBody s_leave_one) (defScope s_leave_one) .none kV17 dc17 pm17 an17 cd17 ct17), sl17⟩)
    (c17 : PySem.W.codeIn K cd17 "leave_one" = true)
    (k17 : PySem.W.keepIn K (.ref f17) = true)
    (a18 : PySem.W.nsIn K mainGlobals "join_one" = some (some (.ref f18)))
    (l18 : K.lookup f18 = some ⟨oc18, od18, .func (PySem.W.fnOf "join_one" "join_one" (defArgs s_join_one) (defBody s_join_one) (defScope s_join_one) .none kV18 dc18 pm18 an18 cd18 ct18), sl18⟩)
    (c18 : PySem.W.codeIn K cd18 "join_one" = true)
    (k18 : PySem.W.keepIn K (.ref f18) = true)
    (a19 : PySem.W.nsIn K mainGlobals "reduced_arrangement" = some (some (.ref f19)))
    (l19 : K.lookup f19 = some ⟨oc19, od19, .func (PySem.W.fnOf "reduced_arrangement" "reduced_arrangement" (defArgs s_reduced_arrangement) (defBody s_reduced_arrangement) (defScope s_reduced_arrangement) .none kV19 dc19 pm19 an19 cd19 ct19), sl19⟩)
    (c19 : PySem.W.codeIn K cd19 "reduced_arrangement" = true)
    (k19 : PySem.W.keepIn K (.ref f19) = true)
    (a20 : PySem.W.nsIn K mainGlobals "leave" = some (some (.ref f20)))
    (l20 : K.lookup f20 = some ⟨oc20, od20, .func (PySem.W.fnOf "leave" "leave" (defArgs s_leave) (defBody s_leave) (defScope s_leave) .none kV20 dc20 pm20 an20 cd20 ct20), sl20⟩)
    (c20 : PySem.W.codeIn K cd20 "leave" = true)
    (k20 : PySem.W.keepIn K (.ref f20) = true)
    (a21 : PySem.W.nsIn K mainGlobals "join" = some (some (.ref f21)))
    (l21 : K.lookup f21 = some ⟨oc21, od21, .func (PySem.W.fnOf "join" "join" (defArgs s_join) (defBody s_join) (defScope s_join) .none kV21 dc21 pm21 an21 cd21 ct21), sl21⟩)
    (c21 : PySem.W.codeIn K cd21 "join" = true)
    (k21 : PySem.W.keepIn K (.ref f21) = true)
    (a22 : PySem.W.nsIn K mainGlobals "reduced" = some (some (.ref f22)))
    (l22 : K.lookup f22 = some ⟨oc22, od22, .func (PySem.W.fnOf "reduced" "reduced" (defArgs s_reduced) (defBody s_reduced) (defScope s_reduced) .none kV22 dc22 pm22 an22 cd22 ct22), sl22⟩)
    (c22 : PySem.W.codeIn K cd22 "reduced" = true)
    (k22 : PySem.W.keepIn K (.ref f22) = true)
    (a23 : PySem.W.nsIn K mainGlobals "chain" = some (some (.ref f23)))
    (l23 : K.lookup f23 = some ⟨oc23, od23, .func (PySem.W.fnOf "chain" "chain" (defArgs s_chain) (defBody s_chain) (defScope s_chain) .none kV23 dc23 pm23 an23 cd23 ct23), sl23⟩)
    (c23 : PySem.W.codeIn K cd23 "chain" = true)
    (k23 : PySem.W.keepIn K (.ref f23) = true)
    (a24 : PySem.W.nsIn K mainGlobals "_law_emptied" = some (some (.ref f24)))
    (l24 : K.lookup f24 = some ⟨oc24, od24, .func (PySem.W.fnOf "_law_emptied" "_law_emptied" (defArgs s__law_emptied) (defBody s__law_emptied) (defScope s__law_emptied) .none kV24 dc24 pm24 an24 cd24 ct24), sl24⟩)
    (c24 : PySem.W.codeIn K cd24 "_law_emptied" = true)
    (k24 : PySem.W.keepIn K (.ref f24) = true)
    (a25 : PySem.W.findIn K (.ref CU) "__init__" = some (some (.ref f25)))
    (i25 : PySem.W.isFn K (.ref f25) = true)
    (l25 : K.lookup f25 = some ⟨oc25, od25, .func (PySem.W.fnOf "__init__" "Unplaced.__init__" (defArgs s_Unplaced_init) (defBody s_Unplaced_init) (defScope s_Unplaced_init) .none kV25 dc25 pm25 an25 cd25 ct25), sl25⟩)
    (c25 : PySem.W.codeIn K cd25 "Unplaced.__init__" = true)
    (k25 : PySem.W.keepIn K (.ref f25) = true)
    (a26 : PySem.W.findIn K (.ref CU) "ways_after" = some (some (.ref f26)))
    (i26 : PySem.W.isFn K (.ref f26) = true)
    (l26 : K.lookup f26 = some ⟨oc26, od26, .func (PySem.W.fnOf "ways_after" "Unplaced.ways_after" (defArgs s_Unplaced_ways_after) (defBody s_Unplaced_ways_after) (defScope s_Unplaced_ways_after) .none kV26 dc26 pm26 an26 cd26 ct26), sl26⟩)
    (c26 : PySem.W.codeIn K cd26 "Unplaced.ways_after" = true)
    (k26 : PySem.W.keepIn K (.ref f26) = true)
    (a27 : PySem.W.findIn K (.ref CU) "place" = some (some (.ref f27)))
    (i27 : PySem.W.isFn K (.ref f27) = true)
    (l27 : K.lookup f27 = some ⟨oc27, od27, .func (PySem.W.fnOf "place" "Unplaced.place" (defArgs s_Unplaced_place) (defBody s_Unplaced_place) (defScope s_Unplaced_place) .none kV27 dc27 pm27 an27 cd27 ct27), sl27⟩)
    (c27 : PySem.W.codeIn K cd27 "Unplaced.place" = true)
    (k27 : PySem.W.keepIn K (.ref f27) = true)
    (a28 : PySem.W.nsIn K mainGlobals "count_orders" = some (some (.ref f28)))
    (l28 : K.lookup f28 = some ⟨oc28, od28, .func (PySem.W.fnOf "count_orders" "count_orders" (defArgs s_count_orders) (defBody s_count_orders) (defScope s_count_orders) .none kV28 dc28 pm28 an28 cd28 ct28), sl28⟩)
    (c28 : PySem.W.codeIn K cd28 "count_orders" = true)
    (k28 : PySem.W.keepIn K (.ref f28) = true)
    (a29 : PySem.W.nsIn K mainGlobals "order_at" = some (some (.ref f29)))
    (l29 : K.lookup f29 = some ⟨oc29, od29, .func (PySem.W.fnOf "order_at" "order_at" (defArgs s_order_at) (defBody s_order_at) (defScope s_order_at) .none kV29 dc29 pm29 an29 cd29 ct29), sl29⟩)
    (c29 : PySem.W.codeIn K cd29 "order_at" = true)
    (k29 : PySem.W.keepIn K (.ref f29) = true)
    (a30 : PySem.W.nsIn K mainGlobals "order_fault" = some (some (.ref f30)))
    (l30 : K.lookup f30 = some ⟨oc30, od30, .func (PySem.W.fnOf "order_fault" "order_fault" (defArgs s_order_fault) (defBody s_order_fault) (defScope s_order_fault) .none kV30 dc30 pm30 an30 cd30 ct30), sl30⟩)
    (c30 : PySem.W.codeIn K cd30 "order_fault" = true)
    (k30 : PySem.W.keepIn K (.ref f30) = true)
    (a31 : PySem.W.nsIn K mainGlobals "require_order" = some (some (.ref f31)))
    (l31 : K.lookup f31 = some ⟨oc31, od31, .func (PySem.W.fnOf "require_order" "require_order" (defArgs s_require_order) (defBody s_require_order) (defScope s_require_order) .none kV31 dc31 pm31 an31 cd31 ct31), sl31⟩)
    (c31 : PySem.W.codeIn K cd31 "require_order" = true)
    (k31 : PySem.W.keepIn K (.ref f31) = true)
    (a32 : PySem.W.nsIn K mainGlobals "order_index" = some (some (.ref f32)))
    (l32 : K.lookup f32 = some ⟨oc32, od32, .func (PySem.W.fnOf "order_index" "order_index" (defArgs s_order_index) (defBody s_order_index) (defScope s_order_index) .none kV32 dc32 pm32 an32 cd32 ct32), sl32⟩)
    (c32 : PySem.W.codeIn K cd32 "order_index" = true)
    (k32 : PySem.W.keepIn K (.ref f32) = true)
    (a33 : PySem.W.nsIn K mainGlobals "order_of" = some (some (.ref f33)))
    (l33 : K.lookup f33 = some ⟨oc33, od33, .func (PySem.W.fnOf "order_of" "order_of" (defArgs s_order_of) (defBody s_order_of) (defScope s_order_of) .none kV33 dc33 pm33 an33 cd33 ct33), sl33⟩)
    (c33 : PySem.W.codeIn K cd33 "order_of" = true)
    (k33 : PySem.W.keepIn K (.ref f33) = true)
    (a34 : PySem.W.nsIn K mainGlobals "seniority_fault" = some (some (.ref f34)))
    (l34 : K.lookup f34 = some ⟨oc34, od34, .func (PySem.W.fnOf "seniority_fault" "seniority_fault" (defArgs s_seniority_fault) (defBody s_seniority_fault) (defScope s_seniority_fault) .none kV34 dc34 pm34 an34 cd34 ct34), sl34⟩)
    (c34 : PySem.W.codeIn K cd34 "seniority_fault" = true)
    (k34 : PySem.W.keepIn K (.ref f34) = true)
    (a35 : PySem.W.findIn K (.ref CO) "__init__" = some (some (.ref f35)))
    (i35 : PySem.W.isFn K (.ref f35) = true)
    (l35 : K.lookup f35 = some ⟨oc35, od35, .func (PySem.W.fnOf "__init__" "Office.__init__" (defArgs s_Office_init) (defBody s_Office_init) (defScope s_Office_init) .none kV35 dc35 pm35 an35 cd35 ct35), sl35⟩)
    (c35 : PySem.W.codeIn K cd35 "Office.__init__" = true)
    (k35 : PySem.W.keepIn K (.ref f35) = true)
    (a36 : PySem.W.findIn K (.ref CO) "arrangement" = some (some (.ref p36)))
    (g36 : PySem.W.specialIn K (.ref p36) "__get__" = some (some (.builtin "property.__get__")))
    (t36 : PySem.W.takesIn K (.ref p36) = some true)
    (rc36 : PySem.W.recIn K p36 "property" = some (.ref f36 :: r36))
    (l36 : K.lookup f36 = some ⟨oc36, od36, .func (PySem.W.fnOf "arrangement" "Office.arrangement" (defArgs s_Office_arrangement) (defBody s_Office_arrangement) (defScope s_Office_arrangement) .none kV36 dc36 pm36 an36 cd36 ct36), sl36⟩)
    (c36 : PySem.W.codeIn K cd36 "Office.arrangement" = true)
    (k36 : PySem.W.keepIn K (.ref f36) = true)
    (a37 : PySem.W.findIn K (.ref CO) "head" = some (some (.ref p37)))
    (g37 : PySem.W.specialIn K (.ref p37) "__get__" = some (some (.builtin "property.__get__")))
    (t37 : PySem.W.takesIn K (.ref p37) = some true)
    (rc37 : PySem.W.recIn K p37 "property" = some (.ref f37 :: r37))
    (l37 : K.lookup f37 = some ⟨oc37, od37, .func (PySem.W.fnOf "head" "Office.head" (defArgs s_Office_head) (defBody s_Office_head) (defScope s_Office_head) .none kV37 dc37 pm37 an37 cd37 ct37), sl37⟩)
    (c37 : PySem.W.codeIn K cd37 "Office.head" = true)
    (k37 : PySem.W.keepIn K (.ref f37) = true)
    (a38 : PySem.W.findIn K (.ref CO) "people" = some (some (.ref p38)))
    (g38 : PySem.W.specialIn K (.ref p38) "__get__" = some (some (.builtin "property.__get__")))
    (t38 : PySem.W.takesIn K (.ref p38) = some true)
    (rc38 : PySem.W.recIn K p38 "property" = some (.ref f38 :: r38))
    (l38 : K.lookup f38 = some ⟨oc38, od38, .func (PySem.W.fnOf "people" "Office.people" (defArgs s_Office_people) (defBody s_Office_people) (defScope s_Office_people) .none kV38 dc38 pm38 an38 cd38 ct38), sl38⟩)
    (c38 : PySem.W.codeIn K cd38 "Office.people" = true)
    (k38 : PySem.W.keepIn K (.ref f38) = true)
    (a39 : PySem.W.findIn K (.ref CO) "__len__" = some (some (.ref f39)))
    (i39 : PySem.W.isFn K (.ref f39) = true)
    (l39 : K.lookup f39 = some ⟨oc39, od39, .func (PySem.W.fnOf "__len__" "Office.__len__" (defArgs s_Office_len) (defBody s_Office_len) (defScope s_Office_len) .none kV39 dc39 pm39 an39 cd39 ct39), sl39⟩)
    (c39 : PySem.W.codeIn K cd39 "Office.__len__" = true)
    (k39 : PySem.W.keepIn K (.ref f39) = true)
    (a40 : PySem.W.findIn K (.ref CO) "put" = some (some (.ref f40)))
    (i40 : PySem.W.isFn K (.ref f40) = true)
    (l40 : K.lookup f40 = some ⟨oc40, od40, .func (PySem.W.fnOf "put" "Office.put" (defArgs s_Office_put) (defBody s_Office_put) (defScope s_Office_put) .none kV40 dc40 pm40 an40 cd40 ct40), sl40⟩)
    (c40 : PySem.W.codeIn K cd40 "Office.put" = true)
    (k40 : PySem.W.keepIn K (.ref f40) = true)
    (a41 : PySem.W.findIn K (.ref CO) "undo" = some (some (.ref f41)))
    (i41 : PySem.W.isFn K (.ref f41) = true)
    (l41 : K.lookup f41 = some ⟨oc41, od41, .func (PySem.W.fnOf "undo" "Office.undo" (defArgs s_Office_undo) (defBody s_Office_undo) (defScope s_Office_undo) .none kV41 dc41 pm41 an41 cd41 ct41), sl41⟩)
    (c41 : PySem.W.codeIn K cd41 "Office.undo" = true)
    (k41 : PySem.W.keepIn K (.ref f41) = true)
    (a42 : PySem.W.findIn K (.ref CO) "admit" = some (some (.ref f42)))
    (i42 : PySem.W.isFn K (.ref f42) = true)
    (l42 : K.lookup f42 = some ⟨oc42, od42, .func (PySem.W.fnOf "admit" "Office.admit" (defArgs s_Office_admit) (defBody s_Office_admit) (defScope s_Office_admit) .none kV42 dc42 pm42 an42 cd42 ct42), sl42⟩)
    (c42 : PySem.W.codeIn K cd42 "Office.admit" = true)
    (k42 : PySem.W.keepIn K (.ref f42) = true)
    (a43 : PySem.W.findIn K (.ref CO) "leave" = some (some (.ref f43)))
    (i43 : PySem.W.isFn K (.ref f43) = true)
    (l43 : K.lookup f43 = some ⟨oc43, od43, .func (PySem.W.fnOf "leave" "Office.leave" (defArgs s_Office_leave) (defBody s_Office_leave) (defScope s_Office_leave) .none kV43 dc43 pm43 an43 cd43 ct43), sl43⟩)
    (c43 : PySem.W.codeIn K cd43 "Office.leave" = true)
    (k43 : PySem.W.keepIn K (.ref f43) = true)
    (rd44 : PySem.W.readsIn K CO (.type "type") = true)
    (ga44 : PySem.W.specialIn K (.ref CO) "__getattribute__" = some (some (.builtin "type.__getattribute__")))
    (a44 : PySem.W.findCls K (.ref CO) (.type "type") "in_order" = some (.get (.builtin "classmethod.__get__") (.ref p44) .none (.ref CO)))
    (rc44 : PySem.W.recIn K p44 "classmethod" = some (.ref f44 :: r44))
    (fi44 : PySem.W.fnIn K f44 = true)
    (l44 : K.lookup f44 = some ⟨oc44, od44, .func (PySem.W.fnOf "in_order" "Office.in_order" (defArgs s_Office_in_order) (defBody s_Office_in_order) (defScope s_Office_in_order) .none kV44 dc44 pm44 an44 cd44 ct44), sl44⟩)
    (c44 : PySem.W.codeIn K cd44 "Office.in_order" = true)
    (k44 : PySem.W.keepIn K (.ref f44) = true)
    (a45 : PySem.W.nsIn K mainGlobals "_law_cell" = some (some (.ref f45)))
    (l45 : K.lookup f45 = some ⟨oc45, od45, .func (PySem.W.fnOf "_law_cell" "_law_cell" (defArgs s__law_cell) (defBody s__law_cell) (defScope s__law_cell) .none kV45 dc45 pm45 an45 cd45 ct45), sl45⟩)
    (c45 : PySem.W.codeIn K cd45 "_law_cell" = true)
    (k45 : PySem.W.keepIn K (.ref f45) = true)
    (a46 : PySem.W.nsIn K mainGlobals "_law_hash" = some (some (.ref f46)))
    (l46 : K.lookup f46 = some ⟨oc46, od46, .func (PySem.W.fnOf "_law_hash" "_law_hash" (defArgs s__law_hash) (defBody s__law_hash) (defScope s__law_hash) .none kV46 dc46 pm46 an46 cd46 ct46), sl46⟩)
    (c46 : PySem.W.codeIn K cd46 "_law_hash" = true)
    (k46 : PySem.W.keepIn K (.ref f46) = true)
    (a47 : PySem.W.nsIn K mainGlobals "_law_generator" = some (some (.ref f47)))
    (l47 : K.lookup f47 = some ⟨oc47, od47, .func (PySem.W.fnOf "_law_generator" "_law_generator" (defArgs s__law_generator) (defBody s__law_generator) (defScope s__law_generator) .none kV47 dc47 pm47 an47 cd47 ct47), sl47⟩)
    (c47 : PySem.W.codeIn K cd47 "_law_generator" = true)
    (k47 : PySem.W.keepIn K (.ref f47) = true)
    (a48 : PySem.W.nsIn K mainGlobals "_law_random" = some (some (.ref f48)))
    (l48 : K.lookup f48 = some ⟨oc48, od48, .func (PySem.W.fnOf "_law_random" "_law_random" (defArgs s__law_random) (defBody s__law_random) (defScope s__law_random) .none kV48 dc48 pm48 an48 cd48 ct48), sl48⟩)
    (c48 : PySem.W.codeIn K cd48 "_law_random" = true)
    (k48 : PySem.W.keepIn K (.ref f48) = true)
    (a49 : PySem.W.nsIn K mainGlobals "_law_shuffled" = some (some (.ref f49)))
    (l49 : K.lookup f49 = some ⟨oc49, od49, .func (PySem.W.fnOf "_law_shuffled" "_law_shuffled" (defArgs s__law_shuffled) (defBody s__law_shuffled) (defScope s__law_shuffled) .none kV49 dc49 pm49 an49 cd49 ct49), sl49⟩)
    (c49 : PySem.W.codeIn K cd49 "_law_shuffled" = true)
    (k49 : PySem.W.keepIn K (.ref f49) = true)
    (a50 : PySem.W.nsIn K mainGlobals "_law_random_chart" = some (some (.ref f50)))
    (l50 : K.lookup f50 = some ⟨oc50, od50, .func (PySem.W.fnOf "_law_random_chart" "_law_random_chart" (defArgs s__law_random_chart) (defBody s__law_random_chart) (defScope s__law_random_chart) .none kV50 dc50 pm50 an50 cd50 ct50), sl50⟩)
    (c50 : PySem.W.codeIn K cd50 "_law_random_chart" = true)
    (k50 : PySem.W.keepIn K (.ref f50) = true)
    (a51 : PySem.W.nsIn K mainGlobals "_law_numbers" = some (some (.ref f51)))
    (l51 : K.lookup f51 = some ⟨oc51, od51, .func (PySem.W.fnOf "_law_numbers" "_law_numbers" (defArgs s__law_numbers) (defBody s__law_numbers) (defScope s__law_numbers) .none kV51 dc51 pm51 an51 cd51 ct51), sl51⟩)
    (c51 : PySem.W.codeIn K cd51 "_law_numbers" = true)
    (k51 : PySem.W.keepIn K (.ref f51) = true)
    (a52 : PySem.W.nsIn K mainGlobals "_law_heads_right" = some (some (.ref f52)))
    (l52 : K.lookup f52 = some ⟨oc52, od52, .func (PySem.W.fnOf "_law_heads_right" "_law_heads_right" (defArgs s__law_heads_right) (defBody s__law_heads_right) (defScope s__law_heads_right) .none kV52 dc52 pm52 an52 cd52 ct52), sl52⟩)
    (c52 : PySem.W.codeIn K cd52 "_law_heads_right" = true)
    (k52 : PySem.W.keepIn K (.ref f52) = true)
    (a53 : PySem.W.nsIn K mainGlobals "_law_back_right" = some (some (.ref f53)))
    (l53 : K.lookup f53 = some ⟨oc53, od53, .func (PySem.W.fnOf "_law_back_right" "_law_back_right" (defArgs s__law_back_right) (defBody s__law_back_right) (defScope s__law_back_right) .none kV53 dc53 pm53 an53 cd53 ct53), sl53⟩)
    (c53 : PySem.W.codeIn K cd53 "_law_back_right" = true)
    (k53 : PySem.W.keepIn K (.ref f53) = true)
    (a54 : PySem.W.nsIn K mainGlobals "law" = some (some (.ref f54)))
    (l54 : K.lookup f54 = some ⟨oc54, od54, .func (PySem.W.fnOf "law" "law" (defArgs s_law) (defBody s_law) (defScope s_law) .none kV54 dc54 pm54 an54 cd54 ct54), sl54⟩)
    (c54 : PySem.W.codeIn K cd54 "law" = true)
    (k54 : PySem.W.keepIn K (.ref f54) = true)
    (aLA : PySem.W.nsIn K mainGlobals "leave_arrangements" = some (some (.ref f20))) :
    ∃ fd : FuncData, (∀ (s : Shared) (v : Value), BindsTo s fd ⟨[v], []⟩ [("_law_script", v)]) ∧ ∀ base : Heap, K.In base → base.Ns mainGlobals mg → FnOk l.prog w K mg base CX0 9 fa fd ["_law_script"] (spLaw K) := by
  have e := hfa.symm.trans (PySem.W.mg_of X G a54)
  cases e
  have T : Txt K mg CT CU CO := ⟨PySem.W.mg_none_of X G z_isinstance, PySem.W.mg_none_of X G z_int, PySem.W.mg_none_of X G z_bool, PySem.W.mg_none_of X G z_tuple, PySem.W.mg_none_of X G z_list, PySem.W.mg_none_of X G z_enumerate, PySem.W.mg_none_of X G z_len, PySem.W.mg_none_of X G z_range, PySem.W.mg_none_of X G z_min, PySem.W.mg_none_of X G z_sorted, PySem.W.mg_none_of X G z_zip, PySem.W.mg_none_of X G z_sum, PySem.W.mg_none_of X G z_dict, PySem.W.mg_none_of X G z_max, ⟨pgCT, hdCT, poCT, saCT⟩, ⟨pgCU, hdCU, poCU, saCU⟩, ⟨pgCO, hdCO, poCO, saCO⟩, tAbove, tBelow, uTree, uWeights, uLeft, uNext, uWays, oAbove, oNow, oPast, oDone⟩
  refine ⟨PySem.W.fnOf "law" "law" (defArgs s_law) (defBody s_law) (defScope s_law) .none kV54 dc54 pm54 an54 cd54 ct54, fun s v => .of_eq rfl, fun base _ _ => ?_⟩
  · have Dk_is_whole : Dg K mg "is_whole" s_is_whole := ⟨f0, _, PySem.W.mg_of X G a0, fun_mk (st := s_is_whole) l0 c0 k0⟩
    have q_k_is_whole : Cal l.prog w K mg base 1 "is_whole" ["value"] spWhole := k_is_whole T Dk_is_whole 
    have Dk_is_person : Dg K mg "is_person" s_is_person := ⟨f1, _, PySem.W.mg_of X G a1, fun_mk (st := s_is_person) l1 c1 k1⟩
    have q_k_is_person : Cal l.prog w K mg base 2 "is_person" ["value"] spWhole := k_is_person T Dk_is_person q_k_is_whole
    have Dk_chart_fault : Dg K mg "chart_fault" s_chart_fault := ⟨f2, _, PySem.W.mg_of X G a2, fun_mk (st := s_chart_fault) l2 c2 k2⟩
    have q_k_chart_fault : Cal l.prog w K mg base 2 "chart_fault" ["value"] spChart := k_chart_fault T Dk_chart_fault q_k_is_whole
    have Dk_require_chart : Dg K mg "require_chart" s_require_chart := ⟨f3, _, PySem.W.mg_of X G a3, fun_mk (st := s_require_chart) l3 c3 k3⟩
    have q_k_require_chart : Cal l.prog w K mg base 3 "require_chart" ["chart"] spChart := k_require_chart T Dk_require_chart q_k_chart_fault
    have Dk_first_fault : Dg K mg "first_fault" s_first_fault := ⟨f4, _, PySem.W.mg_of X G a4, fun_mk (st := s_first_fault) l4 c4 k4⟩
    have q_k_first_fault : Cal l.prog w K mg base 1 "first_fault" ["word", "faults"] spFirst := k_first_fault T Dk_first_fault 
    have Dk_repeats : Dg K mg "repeats" s_repeats := ⟨f5, _, PySem.W.mg_of X G a5, fun_mk (st := s_repeats) l5 c5 k5⟩
    have q_k_repeats : Cal l.prog w K mg base 1 "repeats" ["items"] spRepeats := k_repeats T Dk_repeats 
    have Dk_is_out_of_order : Dg K mg "is_out_of_order" s_is_out_of_order := ⟨f6, _, PySem.W.mg_of X G a6, fun_mk (st := s_is_out_of_order) l6 c6 k6⟩
    have q_k_is_out_of_order : Cal l.prog w K mg base 1 "is_out_of_order" ["chart", "value", "post"] spOut := k_is_out_of_order T Dk_is_out_of_order 
    have Dk_arrangement_fault : Dg K mg "arrangement_fault" s_arrangement_fault := ⟨f7, _, PySem.W.mg_of X G a7, fun_mk (st := s_arrangement_fault) l7 c7 k7⟩
    have q_k_arrangement_fault : Cal l.prog w K mg base 3 "arrangement_fault" ["chart", "value"] spArr := k_arrangement_fault T Dk_arrangement_fault q_k_first_fault q_k_is_person q_k_repeats q_k_is_out_of_order
    have Dk_require_arrangement : Dg K mg "require_arrangement" s_require_arrangement := ⟨f8, _, PySem.W.mg_of X G a8, fun_mk (st := s_require_arrangement) l8 c8 k8⟩
    have q_k_require_arrangement : Cal l.prog w K mg base 4 "require_arrangement" ["chart", "arrangement"] spArr := k_require_arrangement T Dk_require_arrangement q_k_arrangement_fault
    have Dk_require_holder : Dg K mg "require_holder" s_require_holder := ⟨f9, _, PySem.W.mg_of X G a9, fun_mk (st := s_require_holder) l9 c9 k9⟩
    have q_k_require_holder : Cal l.prog w K mg base 3 "require_holder" ["arrangement", "person"] spHolder := k_require_holder T Dk_require_holder q_k_is_person
    have Dk_posts_of_people : Dg K mg "posts_of_people" s_posts_of_people := ⟨f10, _, PySem.W.mg_of X G a10, fun_mk (st := s_posts_of_people) l10 c10 k10⟩
    have q_k_posts_of_people : Cal l.prog w K mg base 1 "posts_of_people" ["arrangement"] spPosts := k_posts_of_people T Dk_posts_of_people 
    have Dk_require_people : Dg K mg "require_people" s_require_people := ⟨f11, _, PySem.W.mg_of X G a11, fun_mk (st := s_require_people) l11 c11 k11⟩
    have q_k_require_people : Cal l.prog w K mg base 3 "require_people" ["arrangement", "people"] spPeople := k_require_people T Dk_require_people q_k_is_person
    have Dk_Tree_path : Dm K CT "path" "Tree.path" s_Tree_path := ⟨T.clT, f12, _, ⟨a12, i12, k12⟩, fun_mk (st := s_Tree_path) l12 c12 k12⟩
    have q_k_Tree_path : CalM l.prog w K mg base 1 CT "path" ["self", "post"] (spPath CT) := k_Tree_path T Dk_Tree_path 
    have Dk_Tree : Di K mg "Tree" CT "Tree.__init__" s_Tree_init := ⟨PySem.W.mg_of X G nCT, f13, _, ⟨mkCT, a13, i13, kcCT⟩, fun_mk (st := s_Tree_init) l13 c13 k13⟩
    have q_k_Tree : CalI l.prog w K mg base 1 "Tree" CT ["self", "chart"] (spTree CT) := k_Tree T Dk_Tree 
    have Dk_Tree_sizes : Dm K CT "sizes" "Tree.sizes" s_Tree_sizes := ⟨T.clT, f14, _, ⟨a14, i14, k14⟩, fun_mk (st := s_Tree_sizes) l14 c14 k14⟩
    have q_k_Tree_sizes : CalM l.prog w K mg base 1 CT "sizes" ["self"] (spSizes CT) := k_Tree_sizes T Dk_Tree_sizes 
    have Dk_is_open : Dg K mg "is_open" s_is_open := ⟨f15, _, PySem.W.mg_of X G a15, fun_mk (st := s_is_open) l15 c15 k15⟩
    have q_k_is_open : Cal l.prog w K mg base 1 "is_open" ["tree", "rows", "post"] (spOpen CT) := k_is_open T Dk_is_open 
    have Dk_move_up : Dg K mg "move_up" s_move_up := ⟨f16, _, PySem.W.mg_of X G a16, fun_mk (st := s_move_up) l16 c16 k16⟩
    have q_k_move_up : Cal l.prog w K mg base 1 "move_up" ["tree", "rows", "post"] (spMove CT) := k_move_up T Dk_move_up 
    have Dk_leave_one : Dg K mg "leave_one" s_leave_one := ⟨f17, _, PySem.W.mg_of X G a17, fun_mk (st := s_leave_one) l17 c17 k17⟩
    have q_k_leave_one : Cal l.prog w K mg base 2 "leave_one" ["tree", "rows", "person"] (spLeaveOne CT) := k_leave_one T Dk_leave_one q_k_move_up
    have Dk_join_one : Dg K mg "join_one" s_join_one := ⟨f18, _, PySem.W.mg_of X G a18, fun_mk (st := s_join_one) l18 c18 k18⟩
    have q_k_join_one : Cal l.prog w K mg base 2 "join_one" ["tree", "rows", "person", "post"] (spJoinOne CT) := k_join_one T Dk_join_one q_k_Tree_path
    have Dk_reduced_arrangement : Dg K mg "reduced_arrangement" s_reduced_arrangement := ⟨f19, _, PySem.W.mg_of X G a19, fun_mk (st := s_reduced_arrangement) l19 c19 k19⟩
    have q_k_reduced_arrangement : Cal l.prog w K mg base 2 "reduced_arrangement" ["tree", "arrangement", "people"] (spRed CT) := k_reduced_arrangement T Dk_reduced_arrangement q_k_Tree_path q_k_posts_of_people
    have Dk_leave : Dg K mg "leave" s_leave := ⟨f20, _, PySem.W.mg_of X G a20, fun_mk (st := s_leave) l20 c20 k20⟩
    have q_k_leave : CalR l.prog w K mg base 5 "leave" spLeave := k_leave T Dk_leave q_k_require_chart q_k_require_arrangement q_k_require_holder q_k_Tree q_k_leave_one
    have q_LA : CalR l.prog w K mg base 5 "leave_arrangements" spLeave := by
      obtain ⟨fx, mx, rx⟩ := q_k_leave
      have e2 := (PySem.W.mg_of X G a20).symm.trans mx
      cases e2
      exact ⟨_, PySem.W.mg_of X G aLA, rx⟩
    have Dk_join : Dg K mg "join" s_join := ⟨f21, _, PySem.W.mg_of X G a21, fun_mk (st := s_join) l21 c21 k21⟩
    have q_k_join : Cal l.prog w K mg base 5 "join" ["chart", "arrangement", "person", "post"] spJoin := k_join T Dk_join q_k_require_chart q_k_require_arrangement q_k_is_person q_k_is_whole q_k_Tree q_k_is_open q_k_join_one
    have Dk_reduced : Dg K mg "reduced" s_reduced := ⟨f22, _, PySem.W.mg_of X G a22, fun_mk (st := s_reduced) l22 c22 k22⟩
    have q_k_reduced : Cal l.prog w K mg base 5 "reduced" ["chart", "arrangement", "people"] spReduced := k_reduced T Dk_reduced q_k_require_chart q_k_require_arrangement q_k_require_people q_k_Tree q_k_reduced_arrangement
    have Dk_chain : Dg K mg "chain" s_chain := ⟨f23, _, PySem.W.mg_of X G a23, fun_mk (st := s_chain) l23 c23 k23⟩
    have q_k_chain : CalG l.prog w K mg base 5 "chain" ["chart", "arrangement", "person"] spChain := k_chain T Dk_chain q_k_require_chart q_k_require_arrangement q_k_require_holder q_k_Tree q_k_move_up
    have Dk__law_emptied : Dg K mg "_law_emptied" s__law_emptied := ⟨f24, _, PySem.W.mg_of X G a24, fun_mk (st := s__law_emptied) l24 c24 k24⟩
    have q_k__law_emptied : Cal l.prog w K mg base 7 "_law_emptied" ["_law_above", "_law_holders", "_law_leaver"] spEmptied := k__law_emptied T Dk__law_emptied q_k_chain
    have Dk_Unplaced : Di K mg "Unplaced" CU "Unplaced.__init__" s_Unplaced_init := ⟨PySem.W.mg_of X G nCU, f25, _, ⟨mkCU, a25, i25, kcCU⟩, fun_mk (st := s_Unplaced_init) l25 c25 k25⟩
    have q_k_Unplaced : CalI l.prog w K mg base 3 "Unplaced" CU ["self", "chart"] (spUnplaced CT CU) := k_Unplaced T Dk_Unplaced q_k_Tree q_k_Tree_sizes
    have Dk_Unplaced_ways_after : Dm K CU "ways_after" "Unplaced.ways_after" s_Unplaced_ways_after := ⟨T.clU, f26, _, ⟨a26, i26, k26⟩, fun_mk (st := s_Unplaced_ways_after) l26 c26 k26⟩
    have q_k_Unplaced_ways_after : CalM l.prog w K mg base 1 CU "ways_after" ["self", "post"] (spWays CT CU) := k_Unplaced_ways_after T Dk_Unplaced_ways_after 
    have Dk_Unplaced_place : Dm K CU "place" "Unplaced.place" s_Unplaced_place := ⟨T.clU, f27, _, ⟨a27, i27, k27⟩, fun_mk (st := s_Unplaced_place) l27 c27 k27⟩
    have q_k_Unplaced_place : CalM l.prog w K mg base 2 CU "place" ["self", "post"] (spPlace CT CU) := k_Unplaced_place T Dk_Unplaced_place q_k_Unplaced_ways_after
    have Dk_count_orders : Dg K mg "count_orders" s_count_orders := ⟨f28, _, PySem.W.mg_of X G a28, fun_mk (st := s_count_orders) l28 c28 k28⟩
    have q_k_count_orders : Cal l.prog w K mg base 5 "count_orders" ["chart"] spCount := k_count_orders T Dk_count_orders q_k_require_chart q_k_Unplaced
    have Dk_order_at : Dg K mg "order_at" s_order_at := ⟨f29, _, PySem.W.mg_of X G a29, fun_mk (st := s_order_at) l29 c29 k29⟩
    have q_k_order_at : Cal l.prog w K mg base 5 "order_at" ["chart", "index"] spOrderAt := k_order_at T Dk_order_at q_k_require_chart q_k_is_whole q_k_Unplaced q_k_Unplaced_ways_after q_k_Unplaced_place
    have Dk_order_fault : Dg K mg "order_fault" s_order_fault := ⟨f30, _, PySem.W.mg_of X G a30, fun_mk (st := s_order_fault) l30 c30 k30⟩
    have q_k_order_fault : Cal l.prog w K mg base 2 "order_fault" ["chart", "value"] spOrd := k_order_fault T Dk_order_fault q_k_is_whole
    have Dk_require_order : Dg K mg "require_order" s_require_order := ⟨f31, _, PySem.W.mg_of X G a31, fun_mk (st := s_require_order) l31 c31 k31⟩
    have q_k_require_order : Cal l.prog w K mg base 3 "require_order" ["chart", "order"] spOrd := k_require_order T Dk_require_order q_k_order_fault
    have Dk_order_index : Dg K mg "order_index" s_order_index := ⟨f32, _, PySem.W.mg_of X G a32, fun_mk (st := s_order_index) l32 c32 k32⟩
    have q_k_order_index : Cal l.prog w K mg base 5 "order_index" ["chart", "order"] spIndex := k_order_index T Dk_order_index q_k_require_chart q_k_require_order q_k_Unplaced q_k_Unplaced_ways_after q_k_Unplaced_place
    have Dk_order_of : Dg K mg "order_of" s_order_of := ⟨f33, _, PySem.W.mg_of X G a33, fun_mk (st := s_order_of) l33 c33 k33⟩
    have q_k_order_of : Cal l.prog w K mg base 5 "order_of" ["chart", "arrangement"] spOrderOf := k_order_of T Dk_order_of q_k_require_chart q_k_require_arrangement
    have Dk_seniority_fault : Dg K mg "seniority_fault" s_seniority_fault := ⟨f34, _, PySem.W.mg_of X G a34, fun_mk (st := s_seniority_fault) l34 c34 k34⟩
    have q_k_seniority_fault : Cal l.prog w K mg base 2 "seniority_fault" ["people", "count"] spSen := k_seniority_fault T Dk_seniority_fault q_k_is_whole
    have Dk_Office : Di K mg "Office" CO "Office.__init__" s_Office_init := ⟨PySem.W.mg_of X G nCO, f35, _, ⟨mkCO, a35, i35, kcCO⟩, fun_mk (st := s_Office_init) l35 c35 k35⟩
    have q_k_Office : CalI l.prog w K mg base 5 "Office" CO ["self", "chart", "arrangement"] (spOffice CO) := k_Office T Dk_Office q_k_require_chart q_k_require_arrangement
    have Dk_Office_arrangement : Dp' K CO "arrangement" "Office.arrangement" s_Office_arrangement := ⟨T.clO, p36, f36, _, ⟨a36, g36, t36, _, rc36⟩, fun_mk (st := s_Office_arrangement) l36 c36 k36⟩
    have q_k_Office_arrangement : CalP l.prog w K mg base 1 CO "arrangement" (spArrP CO) := k_Office_arrangement T Dk_Office_arrangement 
    have Dk_Office_head : Dp' K CO "head" "Office.head" s_Office_head := ⟨T.clO, p37, f37, _, ⟨a37, g37, t37, _, rc37⟩, fun_mk (st := s_Office_head) l37 c37 k37⟩
    have q_k_Office_head : CalP l.prog w K mg base 1 CO "head" (spHead CO) := k_Office_head T Dk_Office_head 
    have Dk_Office_people : Dp' K CO "people" "Office.people" s_Office_people := ⟨T.clO, p38, f38, _, ⟨a38, g38, t38, _, rc38⟩, fun_mk (st := s_Office_people) l38 c38 k38⟩
    have q_k_Office_people : CalP l.prog w K mg base 1 CO "people" (spPeopleP CO) := k_Office_people T Dk_Office_people 
    have Dk_Office_len : Dm K CO "__len__" "Office.__len__" s_Office_len := ⟨T.clO, f39, _, ⟨a39, i39, k39⟩, fun_mk (st := s_Office_len) l39 c39 k39⟩
    have q_k_Office_len : CalM l.prog w K mg base 1 CO "__len__" ["self"] (spLen CO) := k_Office_len T Dk_Office_len 
    have Dk_Office_put : Dm K CO "put" "Office.put" s_Office_put := ⟨T.clO, f40, _, ⟨a40, i40, k40⟩, fun_mk (st := s_Office_put) l40 c40 k40⟩
    have q_k_Office_put : CalM l.prog w K mg base 1 CO "put" ["self", "arrangement", "steps"] (spPut CO) := k_Office_put T Dk_Office_put 
    have Dk_Office_undo : Dm K CO "undo" "Office.undo" s_Office_undo := ⟨T.clO, f41, _, ⟨a41, i41, k41⟩, fun_mk (st := s_Office_undo) l41 c41 k41⟩
    have q_k_Office_undo : CalM l.prog w K mg base 1 CO "undo" ["self"] (spUndo CO) := k_Office_undo T Dk_Office_undo 
    have Dk_Office_admit : Dm K CO "admit" "Office.admit" s_Office_admit := ⟨T.clO, f42, _, ⟨a42, i42, k42⟩, fun_mk (st := s_Office_admit) l42 c42 k42⟩
    have q_k_Office_admit : CalM l.prog w K mg base 6 CO "admit" ["self", "person", "post"] (spAdmit CO) := k_Office_admit T Dk_Office_admit q_k_join q_k_Office_put
    have Dk_Office_leave : Dm K CO "leave" "Office.leave" s_Office_leave := ⟨T.clO, f43, _, ⟨a43, i43, k43⟩, fun_mk (st := s_Office_leave) l43 c43 k43⟩
    have q_k_Office_leave : CalMR l.prog w K mg base 6 CO "leave" (spOLeave CO) := k_Office_leave T Dk_Office_leave q_LA q_k_Office_put
    have Dk_Office_in_order : Dc K mg "Office" CO "in_order" "Office.in_order" s_Office_in_order := ⟨PySem.W.mg_of X G nCO, _, p44, f44, _, ⟨rd44, ga44⟩, ⟨a44, ⟨_, rc44⟩, fi44⟩, fun_mk (st := s_Office_in_order) l44 c44 k44⟩
    have q_k_Office_in_order : CalCM l.prog w K mg base 7 "Office" CO "in_order" (spInOrder CO) := k_Office_in_order T Dk_Office_in_order q_k_require_chart q_k_require_order q_k_seniority_fault q_k_Office
    have Dk__law_cell : Dg K mg "_law_cell" s__law_cell := ⟨f45, _, PySem.W.mg_of X G a45, fun_mk (st := s__law_cell) l45 c45 k45⟩
    have q_k__law_cell : Cal l.prog w K mg base 1 "_law_cell" ["_law_script", "_law_index"] (spCell K) := k__law_cell T Dk__law_cell 
    have Dk__law_hash : Dg K mg "_law_hash" s__law_hash := ⟨f46, _, PySem.W.mg_of X G a46, fun_mk (st := s__law_hash) l46 c46 k46⟩
    have q_k__law_hash : Cal l.prog w K mg base 1 "_law_hash" ["_law_seed", "_law_index"] spHash := k__law_hash T Dk__law_hash 
    have Dk__law_generator : Dg K mg "_law_generator" s__law_generator := ⟨f47, _, PySem.W.mg_of X G a47, fun_mk (st := s__law_generator) l47 c47 k47⟩
    have q_k__law_generator : Cal l.prog w K mg base 2 "_law_generator" ["_law_script", "_law_index"] (spGen K) := k__law_generator T Dk__law_generator q_k__law_cell
    have Dk__law_random : Dg K mg "_law_random" s__law_random := ⟨f48, _, PySem.W.mg_of X G a48, fun_mk (st := s__law_random) l48 c48 k48⟩
    have q_k__law_random : Cal l.prog w K mg base 2 "_law_random" ["_law_generator_here", "_law_bound"] spRandom := k__law_random T Dk__law_random q_k__law_hash
    have Dk__law_shuffled : Dg K mg "_law_shuffled" s__law_shuffled := ⟨f49, _, PySem.W.mg_of X G a49, fun_mk (st := s__law_shuffled) l49 c49 k49⟩
    have q_k__law_shuffled : Cal l.prog w K mg base 3 "_law_shuffled" ["_law_generator_here", "_law_items"] spShuf := k__law_shuffled T Dk__law_shuffled q_k__law_random
    have Dk__law_random_chart : Dg K mg "_law_random_chart" s__law_random_chart := ⟨f50, _, PySem.W.mg_of X G a50, fun_mk (st := s__law_random_chart) l50 c50 k50⟩
    have q_k__law_random_chart : Cal l.prog w K mg base 3 "_law_random_chart" ["_law_generator_here", "_law_most"] spRChart := k__law_random_chart T Dk__law_random_chart q_k__law_random
    have Dk__law_numbers : Dg K mg "_law_numbers" s__law_numbers := ⟨f51, _, PySem.W.mg_of X G a51, fun_mk (st := s__law_numbers) l51 c51 k51⟩
    have q_k__law_numbers : Cal l.prog w K mg base 3 "_law_numbers" ["_law_generator_here", "_law_count"] spNumbers := k__law_numbers T Dk__law_numbers q_k__law_random
    have Dk__law_heads_right : Dg K mg "_law_heads_right" s__law_heads_right := ⟨f52, _, PySem.W.mg_of X G a52, fun_mk (st := s__law_heads_right) l52 c52 k52⟩
    have q_k__law_heads_right : Cal l.prog w K mg base 7 "_law_heads_right" ["_law_above", "_law_office", "_law_numbers_here"] (spHeads CO) := k__law_heads_right T Dk__law_heads_right q_k_Office_head q_k_Office_people q_k_Office_arrangement q_k_reduced q_k_Office_leave q_k_Office_undo q_k_Office_len
    have Dk__law_back_right : Dg K mg "_law_back_right" s__law_back_right := ⟨f53, _, PySem.W.mg_of X G a53, fun_mk (st := s__law_back_right) l53 c53 k53⟩
    have q_k__law_back_right : Cal l.prog w K mg base 8 "_law_back_right" ["_law_generator_here", "_law_above", "_law_office", "_law_numbers_here"] (spBack CO) := k__law_back_right T Dk__law_back_right q_k_Office_arrangement q_k_Office_people q_k__law_shuffled q_k__law_random q_k__law_emptied q_LA q_k_Office_leave q_k_order_of q_k_join q_k_Office_admit
    exact ok_law (fun_mk (st := s_law) l54 c54 k54) T q_k__law_generator q_k__law_random_chart q_k__law_random q_k_count_orders q_k_order_at q_k__law_numbers q_k_Office_in_order q_k_Office_arrangement q_k_order_of q_k_order_index q_k__law_heads_right q_k__law_back_right
theorem walk {l : PySem.W.OpenLaw} {q : Program} {loose : List Str} {XP : (Str → Option Value) → Heap → Prop} {YP : World → Heap → Prop} {d : DefRec} {K : Params → PySem.W.Frag} (hn : l.most = some 63) (hdf : d.params.defaults = [])
    (hY : ∀ (w : World) (h : Heap), YP w h → (K w.params).In h)
    (F : ∀ (w : World) (mg : Str → Option Value) (fa : Addr) (h : Heap), (K w.params).In h → h.Ns mainGlobals mg → mg d.name = some (.ref fa) →
      ∃ fd : FuncData, (∀ (s : Shared) (u : Value), BindsTo s fd ⟨[u], []⟩ [("_law_script", u)]) ∧ ∀ base : Heap, (K w.params).In base → base.Ns mainGlobals mg → FnOk l.prog w (K w.params) mg base CX0 9 fa fd ["_law_script"] (spLaw (K w.params))) :
    PySem.W.WalkO q loose XP YP l.row.toRowW d [] (fun f vs => PySem.call f vs) :=
  L2.walk_of (n := 63) (k := 9) (x := "_law_script") (CX := fun _ => CX0) (sp := fun w => spLaw (K w.params)) hn (by decide) hdf ⟨rfl, by decide, by decide⟩ hY F (fun _ _ a ns hl _ hS => ⟨a, ns, rfl, hS, hl, fun _ => rfl⟩) fun _ _ _ _ _ z => z
end K89
set_option maxRecDepth 100000
open PySem PySem.W PyProof.Rows in
set_option maxRecDepth 100000 in
set_option maxHeartbeats 0 in
theorem PySem.Challenge.cw_movingup_k89_whole_departures_in_order_holds : PySem.Challenge.rw_movingup_k89_whole_departures_in_order.Holds := by
  w_on; o_law; k_head; (case hw => w_witness2)
  k_fill
  refine K89.walk (l := PySem.Challenge.rw_movingup_k89_whole_departures_in_order) rfl rfl (fun w h Y => PySem.W.kIn_of Y) ?F
  case F =>
    intro w mg fa h KX G hmg
    refine' K89.all_mk KX G hmg ?nCT ?nCU ?nCO ?pgCT ?hdCT ?poCT ?saCT ?mkCT ?kcCT ?pgCU ?hdCU ?poCU ?saCU ?mkCU ?kcCU ?pgCO ?hdCO ?poCO ?saCO ?mkCO ?kcCO ?tAbove ?tBelow ?uTree ?uWeights ?uLeft ?uNext ?uWays ?oAbove ?oNow ?oPast ?oDone ?z_isinstance ?z_int ?z_bool ?z_tuple ?z_list ?z_enumerate ?z_len ?z_range ?z_min ?z_sorted ?z_zip ?z_sum ?z_dict ?z_max ?a0 ?l0 ?c0 ?k0 ?a1 ?l1 ?c1 ?k1 ?a2 ?l2 ?c2 ?k2 ?a3 ?l3 ?c3 ?k3 ?a4 ?l4 ?c4 ?k4 ?a5 ?l5 ?c5 ?k5 ?a6 ?l6 ?c6 ?k6 ?a7 ?l7 ?c7 ?k7 ?a8 ?l8 ?c8 ?k8 ?a9 ?l9 ?c9 ?k9 ?a10 ?l10 ?c10 ?k10 ?a11 ?l11 ?c11 ?k11 ?a12 ?i12 ?l12 ?c12 ?k12 ?a13 ?i13 ?l13 ?c13 ?k13 ?a14 ?i14 ?l14 ?c14 ?k14 ?a15 ?l15 ?c15 ?k15 ?a16 ?l16 ?c16 ?k16 ?a17 ?l17 ?c17 ?k17 ?a18 ?l18 ?c18 ?k18 ?a19 ?l19 ?c19 ?k19 ?a20 ?l20 ?c20 ?k20 ?a21 ?l21 ?c21 ?k21 ?a22 ?l22 ?c22 ?k22 ?a23 ?l23 ?c23 ?k23 ?a24 ?l24 ?c24 ?k24 ?a25 ?i25 ?l25 ?c25 ?k25 ?a26 ?i26 ?l26 ?c26 ?k26 ?a27 ?i27 ?l27 ?c27 ?k27 ?a28 ?l28 ?c28 ?k28 ?a29 ?l29 ?c29 ?k29 ?a30 ?l30 ?c30 ?k30 ?a31 ?l31 ?c31 ?k31 ?a32 ?l32 ?c32 ?k32 ?a33 ?l33 ?c33 ?k33 ?a34 ?l34 ?c34 ?k34 ?a35 ?i35 ?l35 ?c35 ?k35 ?a36 ?g36 ?t36 ?rc36 ?l36 ?c36 ?k36 ?a37 ?g37 ?t37 ?rc37 ?l37 ?c37 ?k37 ?a38 ?g38 ?t38 ?rc38 ?l38 ?c38 ?k38 ?a39 ?i39 ?l39 ?c39 ?k39 ?a40 ?i40 ?l40 ?c40 ?k40 ?a41 ?i41 ?l41 ?c41 ?k41 ?a42 ?i42 ?l42 ?c42 ?k42 ?a43 ?i43 ?l43 ?c43 ?k43 ?rd44 ?ga44 ?a44 ?rc44 ?fi44 ?l44 ?c44 ?k44 ?a45 ?l45 ?c45 ?k45 ?a46 ?l46 ?c46 ?k46 ?a47 ?l47 ?c47 ?k47 ?a48 ?l48 ?c48 ?k48 ?a49 ?l49 ?c49 ?k49 ?a50 ?l50 ?c50 ?k50 ?a51 ?l51 ?c51 ?k51 ?a52 ?l52 ?c52 ?k52 ?a53 ?l53 ?c53 ?k53 ?a54 ?l54 ?c54 ?k54 ?aLA
    (case nCT => k_is)
    (case nCU => k_is)
    (case nCO => k_is)
    (case pgCT => k_is)
    (case hdCT => k_is)
    (case poCT => k_is)
    (case saCT => k_is)
    (case mkCT => k_is)
    (case kcCT => k_is)
    (case pgCU => k_is)
    (case hdCU => k_is)
    (case poCU => k_is)
    (case saCU => k_is)
    (case mkCU => k_is)
    (case kcCU => k_is)
    (case pgCO => k_is)
    (case hdCO => k_is)
    (case poCO => k_is)
    (case saCO => k_is)
    (case mkCO => k_is)
    (case kcCO => k_is)
    (case tAbove => k_is)
    (case tBelow => k_is)
    (case uTree => k_is)
    (case uWeights => k_is)
    (case uLeft => k_is)
    (case uNext => k_is)
    (case uWays => k_is)
    (case oAbove => k_is)
    (case oNow => k_is)
    (case oPast => k_is)
    (case oDone => k_is)
    (case z_isinstance => k_is)
    (case z_int => k_is)
    (case z_bool => k_is)
    (case z_tuple => k_is)
    (case z_list => k_is)
    (case z_enumerate => k_is)
    (case z_len => k_is)
    (case z_range => k_is)
    (case z_min => k_is)
    (case z_sorted => k_is)
    (case z_zip => k_is)
    (case z_sum => k_is)
    (case z_dict => k_is)
    (case z_max => k_is)
    (case a0 => k_is)
    (case l0 => k_is)
    (case c0 => k_is)
    (case k0 => k_is)
    (case a1 => k_is)
    (case l1 => k_is)
    (case c1 => k_is)
    (case k1 => k_is)
    (case a2 => k_is)
    (case l2 => k_is)
    (case c2 => k_is)
    (case k2 => k_is)
    (case a3 => k_is)
    (case l3 => k_is)
    (case c3 => k_is)
    (case k3 => k_is)
    (case a4 => k_is)
    (case l4 => k_is)
    (case c4 => k_is)
    (case k4 => k_is)
    (case a5 => k_is)
    (case l5 => k_is)
    (case c5 => k_is)
    (case k5 => k_is)
    (case a6 => k_is)
    (case l6 => k_is)
    (case c6 => k_is)
    (case k6 => k_is)
    (case a7 => k_is)
    (case l7 => k_is)
    (case c7 => k_is)
    (case k7 => k_is)
    (case a8 => k_is)
    (case l8 => k_is)
    (case c8 => k_is)
    (case k8 => k_is)
    (case a9 => k_is)
    (case l9 => k_is)
    (case c9 => k_is)
    (case k9 => k_is)
    (case a10 => k_is)
    (case l10 => k_is)
    (case c10 => k_is)
    (case k10 => k_is)
    (case a11 => k_is)
    (case l11 => k_is)
    (case c11 => k_is)
    (case k11 => k_is)
    (case a12 => k_is)
    (case i12 => k_is)
    (case l12 => k_is)
    (case c12 => k_is)
    (case k12 => k_is)
    (case a13 => k_is)
    (case i13 => k_is)
    (case l13 => k_is)
    (case c13 => k_is)
    (case k13 => k_is)
    (case a14 => k_is)
    (case i14 => k_is)
    (case l14 => k_is)
    (case c14 => k_is)
    (case k14 => k_is)
    (case a15 => k_is)
    (case l15 => k_is)
    (case c15 => k_is)
    (case k15 => k_is)
    (case a16 => k_is)
    (case l16 => k_is)
    (case c16 => k_is)
    (case k16 => k_is)
    (case a17 => k_is)
    (case l17 => k_is)
    (case c17 => k_is)
    (case k17 => k_is)
    (case a18 => k_is)
    (case l18 => k_is)
    (case c18 => k_is)
    (case k18 => k_is)
    (case a19 => k_is)
    (case l19 => k_is)
    (case c19 => k_is)
    (case k19 => k_is)
    (case a20 => k_is)
    (case l20 => k_is)
    (case c20 => k_is)
    (case k20 => k_is)
    (case a21 => k_is)
    (case l21 => k_is)
    (case c21 => k_is)
    (case k21 => k_is)
    (case a22 => k_is)
    (case l22 => k_is)
    (case c22 => k_is)
    (case k22 => k_is)
    (case a23 => k_is)
    (case l23 => k_is)
    (case c23 => k_is)
    (case k23 => k_is)
    (case a24 => k_is)
    (case l24 => k_is)
    (case c24 => k_is)
    (case k24 => k_is)
    (case a25 => k_is)
    (case i25 => k_is)
    (case l25 => k_is)
    (case c25 => k_is)
    (case k25 => k_is)
    (case a26 => k_is)
    (case i26 => k_is)
    (case l26 => k_is)
    (case c26 => k_is)
    (case k26 => k_is)
    (case a27 => k_is)
    (case i27 => k_is)
    (case l27 => k_is)
    (case c27 => k_is)
    (case k27 => k_is)
    (case a28 => k_is)
    (case l28 => k_is)
    (case c28 => k_is)
    (case k28 => k_is)
    (case a29 => k_is)
    (case l29 => k_is)
    (case c29 => k_is)
    (case k29 => k_is)
    (case a30 => k_is)
    (case l30 => k_is)
    (case c30 => k_is)
    (case k30 => k_is)
    (case a31 => k_is)
    (case l31 => k_is)
    (case c31 => k_is)
    (case k31 => k_is)
    (case a32 => k_is)
    (case l32 => k_is)
    (case c32 => k_is)
    (case k32 => k_is)
    (case a33 => k_is)
    (case l33 => k_is)
    (case c33 => k_is)
    (case k33 => k_is)
    (case a34 => k_is)
    (case l34 => k_is)
    (case c34 => k_is)
    (case k34 => k_is)
    (case a35 => k_is)
    (case i35 => k_is)
    (case l35 => k_is)
    (case c35 => k_is)
    (case k35 => k_is)
    (case a36 => k_is)
    (case g36 => k_is)
    (case t36 => k_is)
    (case rc36 => k_is)
    (case l36 => k_is)
    (case c36 => k_is)
    (case k36 => k_is)
    (case a37 => k_is)
    (case g37 => k_is)
    (case t37 => k_is)
    (case rc37 => k_is)
    (case l37 => k_is)
    (case c37 => k_is)
    (case k37 => k_is)
    (case a38 => k_is)
    (case g38 => k_is)
    (case t38 => k_is)
    (case rc38 => k_is)
    (case l38 => k_is)
    (case c38 => k_is)
    (case k38 => k_is)
    (case a39 => k_is)
    (case i39 => k_is)
    (case l39 => k_is)
    (case c39 => k_is)
    (case k39 => k_is)
    (case a40 => k_is)
    (case i40 => k_is)
    (case l40 => k_is)
    (case c40 => k_is)
    (case k40 => k_is)
    (case a41 => k_is)
    (case i41 => k_is)
    (case l41 => k_is)
    (case c41 => k_is)
    (case k41 => k_is)
    (case a42 => k_is)
    (case i42 => k_is)
    (case l42 => k_is)
    (case c42 => k_is)
    (case k42 => k_is)
    (case a43 => k_is)
    (case i43 => k_is)
    (case l43 => k_is)
    (case c43 => k_is)
    (case k43 => k_is)
    (case rd44 => k_is)
    (case ga44 => k_is)
    (case a44 => k_is)
    (case rc44 => k_is)
    (case fi44 => k_is)
    (case l44 => k_is)
    (case c44 => k_is)
    (case k44 => k_is)
    (case a45 => k_is)
    (case l45 => k_is)
    (case c45 => k_is)
    (case k45 => k_is)
    (case a46 => k_is)
    (case l46 => k_is)
    (case c46 => k_is)
    (case k46 => k_is)
    (case a47 => k_is)
    (case l47 => k_is)
    (case c47 => k_is)
    (case k47 => k_is)
    (case a48 => k_is)
    (case l48 => k_is)
    (case c48 => k_is)
    (case k48 => k_is)
    (case a49 => k_is)
    (case l49 => k_is)
    (case c49 => k_is)
    (case k49 => k_is)
    (case a50 => k_is)
    (case l50 => k_is)
    (case c50 => k_is)
    (case k50 => k_is)
    (case a51 => k_is)
    (case l51 => k_is)
    (case c51 => k_is)
    (case k51 => k_is)
    (case a52 => k_is)
    (case l52 => k_is)
    (case c52 => k_is)
    (case k52 => k_is)
    (case a53 => k_is)
    (case l53 => k_is)
    (case c53 => k_is)
    (case k53 => k_is)
    (case a54 => k_is)
    (case l54 => k_is)
    (case c54 => k_is)
    (case k54 => k_is)
    (case aLA => k_is)
#print axioms PySem.Challenge.cw_movingup_k89_whole_departures_in_order_holds
