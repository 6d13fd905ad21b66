import PyProof.Rows.All
import Wide.All
import OpenK.AllK
import Wide.FinOn
import KE.KStateDown
import Lean
import HandS.ForMost
import HandS.More
import HandS.WordsExc
import HandS.Defaults
import HandS.Head0
import HandS.Head1
import HandS.Head2
import HandS.HeadEnd
import HandS.HeadHook1
import HandS.HeadHook2
import HandS.Conv
import HandS.IsInst
import HandS.TupAny
import HandS.Walk
import HandS.Zip
import HandS.Style
import HandS.Codes
import KE.GoesEnum
import PySem.Challenge.RW_takenover_k41_whole_greatest_cuts_and_mi
/-! K41Math: the plain law about bounds, closed families, doings (core Lean alone). -/
namespace K41
abbrev Row := Nat × Nat × Bool
abbrev Find := Nat × Nat × Nat
abbrev Bd := Nat × Nat × Int
structure Stp where
  left : Bool
  cut : Nat
  sure : Bool
def stepOf (r : Row) : Stp := ⟨decide (r.1 < r.2.1), max r.1 r.2.1, r.2.2⟩
def stepsOf (rows : List Row) : List Stp := rows.map stepOf
def cutOn (s : Stp) (c : Int) : Int := if s.left = true ∧ (s.cut : Int) = c then c - 1 else if s.left = false ∧ (s.cut : Int) = c ∧ s.sure = true then c + 1 else c
def cutBack (s : Stp) (c : Int) : Int := if s.left = false ∧ (s.cut : Int) = c - 1 then c - 1 else if s.left = true ∧ (s.cut : Int) = c ∧ s.sure = true then c + 1 else c
def shown (fs : List Find) (b m : Nat) : Bool := fs.any fun f => decide (f.2.2 = b) && decide (m ≤ f.1)
def fromUp (N : Nat) (fs : List Find) (m b : Nat) (c : Int) : List Bd := if b < N then (if shown fs b m = true then [(m, b + 1, c + 1)] else []) ++ [(m, b + 1, c)] else []
def fromOn (sts : List Stp) (m b : Nat) (c : Int) : List Bd := match sts[m]? with
  | some s => [(m + 1, b, cutOn s c)]
  | none => []
def fromBack (sts : List Stp) (m b : Nat) (c : Int) : List Bd := if m = 0 then [] else match sts[m - 1]? with
  | some s => [(m - 1, b, cutBack s c)]
  | none => []
def boundsFrom (N : Nat) (sts : List Stp) (fs : List Find) (q : Bd) : List Bd := fromUp N fs q.1 q.2.1 q.2.2 ++ (fromOn sts q.1 q.2.1 q.2.2 ++ fromBack sts q.1 q.2.1 q.2.2)
def isDenied (fs : List Find) (q : Bd) : Bool := (decide (q.1 = 0) && decide ((q.2.1 : Int) < q.2.2)) || fs.any fun f => decide (f.1 = q.1) && (decide (f.2.2 = q.2.1) && decide ((f.2.1 : Int) < q.2.2))
def firstBounds (N : Nat) (fs : List Find) : List Bd := (List.range (N + 1)).map (fun b : Nat => (0, b, (b : Int))) ++ fs.map fun f => (f.1, f.2.2 + 1, (f.2.1 : Int) + 1)
theorem shown_iff {fs : List Find} {b m : Nat} : shown fs b m = true ↔ ∃ f ∈ fs, f.2.2 = b ∧ m ≤ f.1 := by
  unfold shown
  rw [List.any_eq_true]
  constructor
  · rintro ⟨f, hf, h⟩
    rw [Bool.and_eq_true] at h
    exact ⟨f, hf, of_decide_eq_true h.1, of_decide_eq_true h.2⟩
  · rintro ⟨f, hf, h1, h2⟩
    exact ⟨f, hf, by rw [Bool.and_eq_true]; exact ⟨decide_eq_true h1, decide_eq_true h2⟩⟩
theorem isDenied_iff {fs : List Find} {q : Bd} : isDenied fs q = true ↔ (q.1 = 0 ∧ (q.2.1 : Int) < q.2.2) ∨ ∃ f ∈ fs, f.1 = q.1 ∧ f.2.2 = q.2.1 ∧ (f.2.1 : Int) < q.2.2 := by
  unfold isDenied
  rw [Bool.or_eq_true, Bool.and_eq_true, List.any_eq_true]
  constructor
  · rintro (h | ⟨f, hf, h⟩)
    · exact .inl ⟨of_decide_eq_true h.1, of_decide_eq_true h.2⟩
    · rw [Bool.and_eq_true, Bool.and_eq_true] at h
      exact .inr ⟨f, hf, of_decide_eq_true h.1, of_decide_eq_true h.2.1, of_decide_eq_true h.2.2⟩
  · rintro (h | ⟨f, hf, h1, h2, h3⟩)
    · exact .inl ⟨decide_eq_true h.1, decide_eq_true h.2⟩
    · refine .inr ⟨f, hf, ?_⟩
      rw [Bool.and_eq_true, Bool.and_eq_true]
      exact ⟨decide_eq_true h1, decide_eq_true h2, decide_eq_true h3⟩
def RowOk (N : Nat) (r : Row) : Prop := r.1 < N ∧ r.2.1 < N ∧ (r.1 = r.2.1 + 1 ∨ r.2.1 = r.1 + 1)
def FindOk (N M : Nat) (f : Find) : Prop := f.1 ≤ M ∧ f.2.1 < N ∧ f.2.2 < N
/-- a row, a find seen from the other end -/
def turnRow (N : Nat) (r : Row) : Row := (N - 1 - r.1, N - 1 - r.2.1, r.2.2)
def turnFind (N : Nat) (f : Find) : Find := (f.1, N - 1 - f.2.1, N - 1 - f.2.2)
/-! ### the steps are monotone -/
theorem cutOn_mono (s : Stp) {c d : Int} (h : c ≤ d) : cutOn s c ≤ cutOn s d := by
  unfold cutOn
  cases s.left <;> cases s.sure <;> simp <;> (repeat' split) <;> omega
theorem cutBack_mono (s : Stp) {c d : Int} (h : c ≤ d) : cutBack s c ≤ cutBack s d := by
  unfold cutBack
  cases s.left <;> cases s.sure <;> simp <;> (repeat' split) <;> omega
/-! ### closed families -/
structure Closed (N : Nat) (sts : List Stp) (fs : List Find) (F : Nat → Nat → Int) : Prop where
  low : ∀ m b, m ≤ sts.length → b ≤ N → -1 ≤ F m b
  first : ∀ b, b ≤ N → (b : Int) ≤ F 0 b
  find : ∀ f ∈ fs, (f.2.1 : Int) + 1 ≤ F f.1 (f.2.2 + 1)
  up : ∀ m b, m ≤ sts.length → b < N → F m b ≤ F m (b + 1)
  shn : ∀ m b, m ≤ sts.length → b < N → shown fs b m = true → F m b + 1 ≤ F m (b + 1)
  on : ∀ m s b, sts[m]? = some s → b ≤ N → cutOn s (F m b) ≤ F (m + 1) b
  back : ∀ m s b, sts[m]? = some s → b ≤ N → cutBack s (F (m + 1) b) ≤ F m b
/-- a bound within the family; within the ranges -/
def Below (N M : Nat) (F : Nat → Nat → Int) (q : Bd) : Prop := q.1 ≤ M ∧ q.2.1 ≤ N ∧ q.2.2 ≤ F q.1 q.2.1
theorem lt_of_get {α : Type} {l : List α} {i : Nat} {x : α} (h : l[i]? = some x) : i < l.length := (List.getElem?_eq_some_iff.mp h).1
theorem mem_from {N : Nat} {sts : List Stp} {fs : List Find} {m b : Nat} {c : Int} {q : Bd} (h : q ∈ boundsFrom N sts fs (m, b, c)) :
    (b < N ∧ shown fs b m = true ∧ q = (m, b + 1, c + 1)) ∨ (b < N ∧ q = (m, b + 1, c)) ∨ (∃ s, sts[m]? = some s ∧ q = (m + 1, b, cutOn s c)) ∨ (∃ s m', m = m' + 1 ∧ sts[m']? = some s ∧ q = (m', b, cutBack s c)) := by
  unfold boundsFrom at h
  rw [List.mem_append, List.mem_append] at h
  rcases h with h | h | h
  · unfold fromUp at h
    split at h
    · rename_i hb
      rw [List.mem_append] at h
      rcases h with h | h
      · split at h
        · rename_i hs
          exact .inl ⟨hb, hs, List.mem_singleton.mp h⟩
        · cases h
      · exact .inr (.inl ⟨hb, List.mem_singleton.mp h⟩)
    · cases h
  · unfold fromOn at h
    split at h
    · rename_i s hs
      exact .inr (.inr (.inl ⟨s, hs, List.mem_singleton.mp h⟩))
    · cases h
  · unfold fromBack at h
    split at h
    · cases h
    · rename_i hm
      split at h
      · rename_i s hs
        exact .inr (.inr (.inr ⟨s, m - 1, (by show m = m - 1 + 1; have : m ≠ 0 := hm; omega), hs, List.mem_singleton.mp h⟩))
      · cases h
theorem from_up {N : Nat} {sts : List Stp} {fs : List Find} {m b : Nat} {c : Int} (hb : b < N) : (m, b + 1, c) ∈ boundsFrom N sts fs (m, b, c) := by
  unfold boundsFrom fromUp
  rw [List.mem_append]
  left
  show _ ∈ (if b < N then _ else _)
  rw [if_pos hb, List.mem_append]
  exact .inr (List.mem_singleton.mpr rfl)
theorem from_shn {N : Nat} {sts : List Stp} {fs : List Find} {m b : Nat} {c : Int} (hb : b < N) (hs : shown fs b m = true) : (m, b + 1, c + 1) ∈ boundsFrom N sts fs (m, b, c) := by
  unfold boundsFrom fromUp
  rw [List.mem_append]
  left
  show _ ∈ (if b < N then (if shown fs b m = true then _ else _) ++ _ else _)
  rw [if_pos hb, if_pos hs, List.mem_append]
  exact .inl (List.mem_singleton.mpr rfl)
theorem from_on {N : Nat} {sts : List Stp} {fs : List Find} {m b : Nat} {c : Int} {s : Stp} (hs : sts[m]? = some s) : (m + 1, b, cutOn s c) ∈ boundsFrom N sts fs (m, b, c) := by
  unfold boundsFrom fromOn
  rw [List.mem_append, List.mem_append]
  right; left
  show _ ∈ (match sts[m]? with | some s => _ | none => _)
  rw [hs]
  exact List.mem_singleton.mpr rfl
theorem from_back {N : Nat} {sts : List Stp} {fs : List Find} {m b : Nat} {c : Int} {s : Stp} (hs : sts[m]? = some s) : (m, b, cutBack s c) ∈ boundsFrom N sts fs (m + 1, b, c) := by
  unfold boundsFrom fromBack
  rw [List.mem_append, List.mem_append]
  right; right
  show _ ∈ (if m + 1 = 0 then _ else match sts[m + 1 - 1]? with | some s => _ | none => _)
  rw [if_neg (Nat.succ_ne_zero m), Nat.add_sub_cancel, hs]
  exact List.mem_singleton.mpr rfl
theorem Closed.from_ {N : Nat} {sts : List Stp} {fs : List Find} {F : Nat → Nat → Int} (C : Closed N sts fs F) {q p : Bd} (hq : Below N sts.length F q) (hp : p ∈ boundsFrom N sts fs q) : Below N sts.length F p := by
  obtain ⟨m, b, c⟩ := q
  obtain ⟨h1, h2, h3⟩ := hq
  dsimp only at h1 h2 h3
  rcases mem_from hp with ⟨hb, hs, rfl⟩ | ⟨hb, rfl⟩ | ⟨s, hs, rfl⟩ | ⟨s, m', rfl, hs, rfl⟩
  · have := C.shn m b h1 hb hs
    exact ⟨h1, hb, by show c + 1 ≤ F m (b + 1); omega⟩
  · have := C.up m b h1 hb
    exact ⟨h1, hb, by show c ≤ F m (b + 1); omega⟩
  · exact ⟨lt_of_get hs, h2, Int.le_trans (cutOn_mono s h3) (C.on m s b hs h2)⟩
  · exact ⟨Nat.le_of_lt (lt_of_get hs), h2, Int.le_trans (cutBack_mono s h3) (C.back m' s b hs h2)⟩
theorem Closed.firsts {N : Nat} {sts : List Stp} {fs : List Find} {F : Nat → Nat → Int} (C : Closed N sts fs F) (hf : ∀ f ∈ fs, f.1 ≤ sts.length ∧ f.2.1 < N ∧ f.2.2 < N) : ∀ q ∈ firstBounds N fs, Below N sts.length F q := by
  intro q hq
  unfold firstBounds at hq
  rw [List.mem_append, List.mem_map, List.mem_map] at hq
  rcases hq with ⟨b, hb, rfl⟩ | ⟨f, hf', rfl⟩
  · have hb' : b ≤ N := by
      have := List.mem_range.mp hb
      omega
    exact ⟨Nat.zero_le _, hb', C.first b hb'⟩
  · obtain ⟨a1, a2, a3⟩ := hf f hf'
    exact ⟨a1, a3, C.find f hf'⟩
/-! ### the paths of the borders in a doing -/
def mv (s : Stp) (done : Bool) (c : Int) : Int := if done = true ∧ (s.cut : Int) = c then (if s.left = true then c - 1 else c + 1) else c
def pth (sts : List Stp) (d : List Bool) (b : Nat) : Nat → Int
  | 0 => (b : Int)
  | m + 1 => match sts[m]? with
    | some s => mv s (d.getD m false) (pth sts d b m)
    | none => pth sts d b m
structure Doing (sts : List Stp) (d : List Bool) : Prop where
  len : d.length = sts.length
  sure : ∀ m s, sts[m]? = some s → s.sure = true → d.getD m false = true
structure Good (sts : List Stp) (fs : List Find) (d : List Bool) : Prop where
  doing : Doing sts d
  finds : ∀ f ∈ fs, pth sts d f.2.2 f.1 ≤ f.2.1 ∧ (f.2.1 : Int) + 1 ≤ pth sts d (f.2.2 + 1) f.1
theorem pth_succ {sts : List Stp} {d : List Bool} {b m : Nat} {s : Stp} (h : sts[m]? = some s) : pth sts d b (m + 1) = mv s (d.getD m false) (pth sts d b m) := by
  show (match sts[m]? with | some s => mv s (d.getD m false) (pth sts d b m) | none => pth sts d b m) = _
  rw [h]
theorem mv_mono (s : Stp) (x : Bool) {c d : Int} (h : c ≤ d) : mv s x c ≤ mv s x d := by
  unfold mv
  cases x <;> cases s.left <;> simp <;> (repeat' split) <;> omega
theorem on_mv (s : Stp) (x : Bool) (c : Int) (h : s.sure = true → x = true) : cutOn s c ≤ mv s x c := by
  unfold cutOn mv
  revert h
  cases x <;> cases s.left <;> cases s.sure <;> simp <;> (repeat' split) <;> omega
theorem back_mv (s : Stp) (x : Bool) (c : Int) (h : s.sure = true → x = true) : cutBack s (mv s x c) ≤ c := by
  unfold cutBack mv
  revert h
  cases x <;> cases s.left <;> cases s.sure <;> simp <;> (repeat' split) <;> omega
theorem mv_low (s : Stp) (x : Bool) {c : Int} (h : 0 ≤ c) (hs : 1 ≤ s.cut) : 0 ≤ mv s x c := by
  unfold mv
  cases x <;> cases s.left <;> simp <;> (repeat' split) <;> omega
section
variable {N : Nat} {sts : List Stp} {fs : List Find} {d : List Bool}
theorem pth_low (hs : ∀ s ∈ sts, 1 ≤ s.cut) (b : Nat) : ∀ m, 0 ≤ pth sts d b m
  | 0 => Int.natCast_nonneg b
  | m + 1 => by
    show 0 ≤ (match sts[m]? with | some s => mv s (d.getD m false) (pth sts d b m) | none => pth sts d b m)
    split
    · rename_i s h
      exact mv_low s _ (pth_low hs b m) (hs s (List.mem_of_getElem? h))
    · exact pth_low hs b m
theorem pth_up (b : Nat) : ∀ m, pth sts d b m ≤ pth sts d (b + 1) m
  | 0 => by
    show (b : Int) ≤ ((b + 1 : Nat) : Int)
    omega
  | m + 1 => by
    show (match sts[m]? with | some s => mv s (d.getD m false) (pth sts d b m) | none => pth sts d b m) ≤ (match sts[m]? with | some s => mv s (d.getD m false) (pth sts d (b + 1) m) | none => pth sts d (b + 1) m)
    split
    · exact mv_mono _ _ (pth_up b m)
    · exact pth_up b m
/-- borders that have met stay together -/
theorem pth_met {a b : Nat} {m : Nat} (h : pth sts d a m = pth sts d b m) : ∀ k, pth sts d a (m + k) = pth sts d b (m + k)
  | 0 => h
  | k + 1 => by
    show (match sts[m + k]? with | some s => mv s (d.getD (m + k) false) (pth sts d a (m + k)) | none => pth sts d a (m + k)) = (match sts[m + k]? with | some s => mv s (d.getD (m + k) false) (pth sts d b (m + k)) | none => pth sts d b (m + k))
    rw [pth_met h k]
theorem Good.closed (G : Good sts fs d) (hs : ∀ s ∈ sts, 1 ≤ s.cut) : Closed N sts fs (fun m b => pth sts d b m) where
  low := fun m b _ _ => by have := pth_low (d := d) hs b m; omega
  first := fun b _ => Int.le_refl _
  find := fun f hf => (G.finds f hf).2
  up := fun m b _ _ => pth_up b m
  shn := fun m b _ _ h => by
    obtain ⟨f, hf, e, hm⟩ := shown_iff.mp h
    have h1 := pth_up (sts := sts) (d := d) b m
    have h2 := G.finds f hf
    rw [e] at h2
    by_cases q : pth sts d b m = pth sts d (b + 1) m
    · have := pth_met q (f.1 - m)
      rw [show m + (f.1 - m) = f.1 by omega] at this
      omega
    · omega
  on := fun m s b h _ => by
    show cutOn s (pth sts d b m) ≤ pth sts d b (m + 1)
    rw [pth_succ h]
    exact on_mv s _ _ (G.doing.sure m s h)
  back := fun m s b h _ => by
    show cutBack s (pth sts d b (m + 1)) ≤ pth sts d b m
    rw [pth_succ h]
    exact back_mv s _ _ (G.doing.sure m s h)
end
/-! ### the least closed family is that of a doing -/
structure Least (N : Nat) (sts : List Stp) (fs : List Find) (L : Nat → Nat → Int) : Prop where
  closed : Closed N sts fs L
  least : ∀ F, Closed N sts fs F → ∀ m b, m ≤ sts.length → b ≤ N → L m b ≤ F m b
  start : ∀ b, b ≤ N → L 0 b ≤ b
  finds : ∀ f ∈ fs, L f.1 f.2.2 ≤ f.2.1
section
variable {N : Nat} {sts : List Stp} {fs : List Find} {L : Nat → Nat → Int}
/-- borders that have met stay together -/
theorem Least.merge (X : Least N sts fs L) {m b : Nat} {s : Stp} (hs : sts[m]? = some s) (hb : b < N) (e : L m b = L m (b + 1)) : L (m + 1) b = L (m + 1) (b + 1) := by
  have hm := lt_of_get hs
  have C := X.closed
  have nshow : ∀ t, m ≤ t → ¬ shown fs b t = true := fun t ht h => by
    obtain ⟨f, hf, e1, h1⟩ := shown_iff.mp h
    have := C.shn m b (by omega) hb (shown_iff.mpr ⟨f, hf, e1, by omega⟩)
    omega
  have CF : Closed N sts fs (fun t a => if a = b + 1 ∧ m + 1 ≤ t then L t b else L t a) := by
    refine ⟨fun t a ht ha => ?_, fun a ha => ?_, fun f hf => ?_, fun t a ht ha => ?_, fun t a ht ha h => ?_, fun t u a hu ha => ?_, fun t u a hu ha => ?_⟩
    · try dsimp only
      split
      · exact C.low t b ht (by omega)
      · exact C.low t a ht ha
    · try dsimp only
      rw [if_neg (by omega)]
      exact C.first a ha
    · try dsimp only
      split
      · rename_i h
        exact absurd (shown_iff.mpr ⟨f, hf, by omega, Nat.le_refl _⟩) (nshow f.1 (by omega))
      · exact C.find f hf
    · try dsimp only
      have u1 := C.up t a ht ha
      by_cases h1 : a = b + 1 ∧ m + 1 ≤ t
      · rw [if_pos h1, if_neg (by omega)]
        obtain ⟨rfl, _⟩ := h1
        have := C.up t b ht (by omega)
        omega
      · rw [if_neg h1]
        split
        · rename_i h2
          have : a = b := by omega
          rw [this]
          omega
        · exact u1
    · try dsimp only
      have u1 := C.shn t a ht ha h
      by_cases h1 : a = b + 1 ∧ m + 1 ≤ t
      · rw [if_pos h1, if_neg (by omega)]
        obtain ⟨rfl, _⟩ := h1
        have := C.up t b ht (by omega)
        omega
      · rw [if_neg h1]
        split
        · rename_i h2
          have : a = b := by omega
          rw [this] at h
          exact absurd h (nshow t (by omega))
        · exact u1
    · try dsimp only
      by_cases h1 : a = b + 1 ∧ m + 1 ≤ t
      · rw [if_pos h1, if_pos (by omega)]
        exact C.on t u b hu (by omega)
      · rw [if_neg h1]
        split
        · rename_i h2
          have et : t = m := by omega
          obtain ⟨rfl, _⟩ := h2
          rw [et, ← e]
          rw [et] at hu
          exact C.on m u b hu (by omega)
        · exact C.on t u a hu ha
    · try dsimp only
      by_cases h1 : a = b + 1 ∧ m + 1 ≤ t
      · rw [if_pos h1, if_pos (by omega)]
        exact C.back t u b hu (by omega)
      · rw [if_neg h1]
        split
        · rename_i h2
          have et : t = m := by omega
          obtain ⟨rfl, _⟩ := h2
          rw [et, ← e]
          rw [et] at hu
          exact C.back m u b hu (by omega)
        · exact C.back t u a hu ha
  have h1 := X.least _ CF (m + 1) (b + 1) (by omega) (by omega)
  try dsimp only at h1
  rw [if_pos ⟨rfl, Nat.le_refl _⟩] at h1
  have h2 := C.up (m + 1) b (by omega) hb
  omega
theorem Least.merges (X : Least N sts fs L) {m : Nat} {s : Stp} (hs : sts[m]? = some s) {a : Nat} : ∀ k, a + k ≤ N → L m a = L m (a + k) → L (m + 1) a = L (m + 1) (a + k)
  | 0, _, _ => rfl
  | k + 1, hk, e => by
    have hm := lt_of_get hs
    have mono : ∀ j, a + j ≤ N → L m a ≤ L m (a + j) := fun j => by
      induction j with
      | zero => intro _; exact Int.le_refl _
      | succ j ih =>
        intro hj
        have u := X.closed.up m (a + j) (by omega) (by omega)
        have i := ih (by omega)
        show L m a ≤ L m (a + j + 1)
        omega
    have u := X.closed.up m (a + k) (by omega) (by omega)
    have i := mono k (by omega)
    have e' : L m a = L m (a + k + 1) := e
    have e1 : L m a = L m (a + k) := by omega
    have e2 : L m (a + k) = L m (a + k + 1) := by omega
    rw [Least.merges X hs k (by omega) e1]
    exact X.merge hs (by omega) e2
theorem Least.together (X : Least N sts fs L) {m : Nat} {s : Stp} (hs : sts[m]? = some s) {a b : Nat} (ha : a ≤ N) (hb : b ≤ N) (e : L m a = L m b) : L (m + 1) a = L (m + 1) b := by
  by_cases h : a ≤ b
  · have q : b = a + (b - a) := by omega
    rw [q] at e ⊢
    exact X.merges hs (b - a) (by omega) e
  · have q : a = b + (a - b) := by omega
    rw [q] at e ⊢
    exact (X.merges hs (a - b) (by omega) e.symm).symm
/-- the doing of the least family -/
noncomputable def doOf (N : Nat) (sts : List Stp) (L : Nat → Nat → Int) : List Bool :=
  (List.range sts.length).map fun m => match sts[m]? with
    | some s => s.sure || @decide (∃ b, b ≤ N ∧ L m b ≠ L (m + 1) b) (Classical.propDecidable _)
    | none => false
theorem doOf_at {m : Nat} {s : Stp} (h : sts[m]? = some s) : (doOf N sts L).getD m false = (s.sure || @decide (∃ b, b ≤ N ∧ L m b ≠ L (m + 1) b) (Classical.propDecidable _)) := by
  unfold doOf
  rw [List.getD_eq_getElem?_getD, List.getElem?_map, List.getElem?_range (lt_of_get h)]
  rw [Option.map_some, Option.getD_some, h]
theorem step_of_least {s : Stp} {c c' : Int} (o : cutOn s c ≤ c') (k : cutBack s c' ≤ c) (x : Bool) (hx : s.sure = true → x = true) (h1 : x = true → s.cut = c → c ≠ c') (h2 : x = false → c = c') : c' = mv s x c := by
  revert o k hx h1 h2
  unfold cutOn cutBack mv
  cases x <;> cases s.left <;> cases s.sure <;> simp <;> (repeat' split) <;> omega
theorem Least.path (X : Least N sts fs L) {b : Nat} (hb : b ≤ N) : ∀ m, m ≤ sts.length → pth sts (doOf N sts L) b m = L m b
  | 0, _ => by
    have h1 := X.start b hb
    have h2 := X.closed.first b hb
    show (b : Int) = L 0 b
    omega
  | m + 1, hm => by
    obtain ⟨s, hs⟩ : ∃ s, sts[m]? = some s := ⟨_, List.getElem?_eq_getElem (show m < sts.length by omega)⟩
    rw [pth_succ hs, Least.path X hb m (by omega), doOf_at hs]
    have on := X.closed.on m s
    have bk := X.closed.back m s
    refine (step_of_least (on b hs hb) (bk b hs hb) _ (fun h => by rw [h]; rfl) (fun hx e => ?_) (fun hx => ?_)).symm
    · intro q
      rw [Bool.or_eq_true] at hx
      rcases hx with hx | hx
      · have o := on b hs hb
        have k := bk b hs hb
        revert o k
        rw [← q, ← e]
        unfold cutOn cutBack
        rw [hx]
        cases s.left <;> simp <;> (repeat' split) <;> omega
      · obtain ⟨a, ha, na⟩ := @of_decide_eq_true _ (Classical.propDecidable _) hx
        apply na
        by_cases ea : L m a = L m b
        · rw [X.together hs ha hb ea, ea]
          exact q
        · have o := on a hs ha
          have k := bk a hs ha
          have ne : (s.cut : Int) ≠ L m a := by omega
          revert o k
          unfold cutOn cutBack
          cases s.left <;> cases s.sure <;> simp <;> (repeat' split) <;> omega
    · rw [Bool.or_eq_false_iff] at hx
      have := @of_decide_eq_false _ (Classical.propDecidable _) hx.2
      by_cases q : L m b = L (m + 1) b
      · exact q
      · exact absurd ⟨b, hb, q⟩ this
theorem Least.good (X : Least N sts fs L) (hf : ∀ f ∈ fs, f.1 ≤ sts.length ∧ f.2.1 < N ∧ f.2.2 < N) : Good sts fs (doOf N sts L) where
  doing := by
    refine ⟨?_, fun m s h hs => ?_⟩
    · unfold doOf
      rw [List.length_map, List.length_range]
    · rw [doOf_at h, hs]
      rfl
  finds := fun f h => by
    obtain ⟨a1, a2, a3⟩ := hf f h
    rw [X.path (Nat.le_of_lt a3) f.1 a1, X.path a3 f.1 a1]
    exact ⟨X.finds f h, X.closed.find f h⟩
end
end K41
/-! K41Alg: the family's algorithm as a plain function on states, and what it ends in. -/
namespace K41
/-- the family's state: the cuts, the waiting bounds, the denied one -/
structure FS where
  C : Nat → Nat → Int
  wait : List Bd
  den : Option Bd
def put (fs : List Find) (s : FS) (q : Bd) : FS :=
  if s.den = none ∧ s.C q.1 q.2.1 < q.2.2 then ⟨fun m b => if m = q.1 ∧ b = q.2.1 then q.2.2 else s.C m b, s.wait ++ [q], if isDenied fs q = true then some q else none⟩ else s
def putAll (fs : List Find) (s : FS) (l : List Bd) : FS := l.foldl (put fs) s
def turn (N : Nat) (sts : List Stp) (fs : List Find) (s : FS) (later : List Bd) : FS := later.foldl (fun s q => putAll fs s (boundsFrom N sts fs q)) s
def fs0 : FS := ⟨fun _ _ => -1, [], none⟩
/-- all potential that is left -/
def potRow (M N m : Nat) (C : Nat → Nat → Int) : Nat := ((List.range (N + 1)).map fun b => (N + b - C m b).toNat).sum
def pot (M N : Nat) (C : Nat → Nat → Int) : Nat := ((List.range (M + 1)).map fun m => potRow M N m C).sum
theorem sum_le {α : Type} {f g : α → Nat} : ∀ {l : List α}, (∀ x ∈ l, g x ≤ f x) → (l.map g).sum ≤ (l.map f).sum
  | [], _ => Nat.le_refl _
  | x :: l, h => by
    rw [List.map_cons, List.map_cons, List.sum_cons, List.sum_cons]
    have h1 := h x (List.mem_cons_self)
    have h2 := sum_le (l := l) (fun y hy => h y (List.mem_cons_of_mem _ hy))
    omega
theorem sum_lt {α : Type} {f g : α → Nat} : ∀ {l : List α} {y : α}, y ∈ l → (∀ x ∈ l, g x ≤ f x) → g y < f y → (l.map g).sum < (l.map f).sum
  | x :: l, y, hy, h, hl => by
    rw [List.map_cons, List.map_cons, List.sum_cons, List.sum_cons]
    have h1 := h x (List.mem_cons_self)
    have h2 := sum_le (f := f) (g := g) (l := l) (fun y hy => h y (List.mem_cons_of_mem _ hy))
    rcases List.mem_cons.mp hy with rfl | hy
    · omega
    · have := sum_lt hy (fun y hy => h y (List.mem_cons_of_mem _ hy)) hl
      omega
theorem pot_lt {M N : Nat} {C D : Nat → Nat → Int} (hle : ∀ m b, C m b ≤ D m b) {m b : Nat} (hm : m ≤ M) (hb : b ≤ N) (h : C m b < D m b) (hc : D m b ≤ N + b) : pot M N D < pot M N C := by
  refine sum_lt (y := m) (List.mem_range.mpr (by omega)) (fun m _ => sum_le fun b _ => ?_) (sum_lt (y := b) (List.mem_range.mpr (by omega)) (fun b _ => ?_) ?_)
  · have := hle m b
    omega
  · have := hle m b
    omega
  · omega
theorem sum_const {α : Type} {f : α → Nat} {k : Nat} : ∀ {l : List α}, (∀ x ∈ l, f x ≤ k) → (l.map f).sum ≤ l.length * k
  | [], _ => by simp
  | x :: l, h => by
    rw [List.map_cons, List.sum_cons, List.length_cons, Nat.succ_mul]
    have h1 := h x (List.mem_cons_self)
    have h2 := sum_const (l := l) (fun y hy => h y (List.mem_cons_of_mem _ hy))
    omega
theorem pot_le {M N : Nat} {C : Nat → Nat → Int} (h : ∀ m b, -1 ≤ C m b) : pot M N C ≤ (M + 1) * ((N + 1) * (2 * N + 1)) := by
  have h1 : ∀ m, potRow M N m C ≤ (N + 1) * (2 * N + 1) := fun m => by
    have := sum_const (f := fun b => (N + b - C m b).toNat) (k := 2 * N + 1) (l := List.range (N + 1)) (fun b hb => by
      have := List.mem_range.mp hb
      have := h m b
      omega)
    rw [List.length_range] at this
    exact this
  have := sum_const (f := fun m => potRow M N m C) (k := (N + 1) * (2 * N + 1)) (l := List.range (M + 1)) (fun m _ => h1 m)
  rw [List.length_range] at this
  exact this
/-! ### the invariant -/
/-- steps and finds within the ranges -/
structure Fit (N : Nat) (sts : List Stp) (fs : List Find) : Prop where
  cuts : ∀ s ∈ sts, 1 ≤ s.cut ∧ s.cut < N
  finds : ∀ f ∈ fs, f.1 ≤ sts.length ∧ f.2.1 < N ∧ f.2.2 < N
def InR (N M : Nat) (q : Bd) : Prop := q.1 ≤ M ∧ q.2.1 ≤ N ∧ q.2.2 ≤ N + q.2.1
theorem InR.from_ {N : Nat} {sts : List Stp} {fs : List Find} (X : Fit N sts fs) {q p : Bd} (hq : InR N sts.length q) (hp : p ∈ boundsFrom N sts fs q) : InR N sts.length p := by
  obtain ⟨m, b, c⟩ := q
  obtain ⟨h1, h2, h3⟩ := hq
  dsimp only at h1 h2 h3
  rcases mem_from hp with ⟨hb, hs, rfl⟩ | ⟨hb, rfl⟩ | ⟨s, hs, rfl⟩ | ⟨s, m', rfl, hs, rfl⟩
  · exact ⟨h1, hb, by show c + 1 ≤ N + ((b + 1 : Nat) : Int); omega⟩
  · exact ⟨h1, hb, by show c ≤ N + ((b + 1 : Nat) : Int); omega⟩
  · refine ⟨lt_of_get hs, h2, ?_⟩
    have := X.cuts s (List.mem_of_getElem? hs)
    show cutOn s c ≤ N + (b : Int)
    unfold cutOn
    split
    · omega
    · split <;> omega
  · refine ⟨Nat.le_of_lt (lt_of_get hs), h2, ?_⟩
    have := X.cuts s (List.mem_of_getElem? hs)
    show cutBack s c ≤ N + (b : Int)
    unfold cutBack
    split
    · omega
    · split <;> omega
theorem InR.firsts {N : Nat} {sts : List Stp} {fs : List Find} (X : Fit N sts fs) : ∀ q ∈ firstBounds N fs, InR N sts.length q := by
  intro q hq
  unfold firstBounds at hq
  rw [List.mem_append, List.mem_map, List.mem_map] at hq
  rcases hq with ⟨b, hb, rfl⟩ | ⟨f, hf', rfl⟩
  · have := List.mem_range.mp hb
    exact ⟨Nat.zero_le _, by show b ≤ N; omega, by show (b : Int) ≤ N + b; omega⟩
  · obtain ⟨a1, a2, a3⟩ := X.finds f hf'
    exact ⟨a1, a3, by show (f.2.1 : Int) + 1 ≤ N + ((f.2.2 + 1 : Nat) : Int); omega⟩
/-- what stands between two puts. rem: the bounds whose followers are not all put yet; due: the first bounds that are not put yet -/
structure Go (N : Nat) (sts : List Stp) (fs : List Find) (rem due : List Bd) (s : FS) : Prop where
  rng : ∀ m b, -1 ≤ s.C m b ∧ s.C m b ≤ N + b
  wr : ∀ q ∈ s.wait, InR N sts.length q
  rr : ∀ q ∈ rem, InR N sts.length q
  dr : ∀ q, s.den = some q → InR N sts.length q ∧ isDenied fs q = true ∧ s.C q.1 q.2.1 = q.2.2
  sound : ∀ F, Closed N sts fs F → ∀ m b, m ≤ sts.length → b ≤ N → s.C m b ≤ F m b
  out : ∀ m b, ¬ (m ≤ sts.length ∧ b ≤ N) → s.C m b = -1
  sw : ∀ F, Closed N sts fs F → ∀ q ∈ s.wait, Below N sts.length F q
  sr : ∀ F, Closed N sts fs F → ∀ q ∈ rem, Below N sts.length F q
  fin : s.den = none → ∀ m b, s.C m b ≠ -1 → (m, b, s.C m b) ∈ s.wait ∨ (m, b, s.C m b) ∈ rem ∨ ∀ p ∈ boundsFrom N sts fs (m, b, s.C m b), p.2.2 ≤ s.C p.1 p.2.1
  firsts : s.den = none → ∀ q ∈ firstBounds N fs, q ∈ due ∨ q.2.2 ≤ s.C q.1 q.2.1
  ok : s.den = none → ∀ m b, s.C m b ≠ -1 → isDenied fs (m, b, s.C m b) = false
section
variable {N : Nat} {sts : List Stp} {fs : List Find} {rem due : List Bd} {s : FS} {q : Bd}
theorem put_den (h : s.den ≠ none) : put fs s q = s := if_neg fun z => h z.1
theorem put_low (h : q.2.2 ≤ s.C q.1 q.2.1) : put fs s q = s := if_neg fun z => by omega
theorem put_mono (m b : Nat) : s.C m b ≤ (put fs s q).C m b := by
  unfold put
  split
  · rename_i h
    dsimp only
    split
    · rename_i e
      obtain ⟨rfl, rfl⟩ := e
      omega
    · exact Int.le_refl _
  · exact Int.le_refl _
theorem put_reach (h : (put fs s q).den = none) : q.2.2 ≤ (put fs s q).C q.1 q.2.1 := by
  unfold put at h ⊢
  split
  · dsimp only
    rw [if_pos ⟨rfl, rfl⟩]
    exact Int.le_refl _
  · rename_i hn
    rw [if_neg hn] at h
    by_cases z : s.C q.1 q.2.1 < q.2.2
    · exact absurd ⟨h, z⟩ hn
    · omega
theorem put_den_of (h : (put fs s q).den = none) : s.den = none := by
  cases e : s.den with
  | none => rfl
  | some p =>
    rw [put_den (by rw [e]; intro z; cases z), e] at h
    cases h
/-- a put keeps the invariant -/
theorem Go.put (G : Go N sts fs rem due s) (hr : InR N sts.length q) (hs : ∀ F, Closed N sts fs F → Below N sts.length F q) : Go N sts fs rem due (put fs s q) := by
  unfold K41.put
  split
  · rename_i h
    obtain ⟨hd, hlt⟩ := h
    have hup : ∀ m b, s.C m b ≤ if m = q.1 ∧ b = q.2.1 then q.2.2 else s.C m b := fun m b => by
      split
      · rename_i e
        obtain ⟨rfl, rfl⟩ := e
        omega
      · exact Int.le_refl _
    refine ⟨fun m b => ?_, fun p hp => ?_, G.rr, fun p hp => ?_, fun F hF m b hm hb => ?_, fun m b hmb => ?_, fun F hF p hp => ?_, G.sr, fun hn m b hmb => ?_, fun hn p hp => ?_, fun hn m b hmb => ?_⟩
    · dsimp only
      have := G.rng m b
      split
      · rename_i e
        obtain ⟨rfl, rfl⟩ := e
        have := hr.2.2
        omega
      · exact this
    · rcases List.mem_append.mp hp with hp | hp
      · exact G.wr p hp
      · rw [List.mem_singleton.mp hp]
        exact hr
    · dsimp only at hp
      split at hp
      · rename_i hden
        cases hp
        exact ⟨hr, hden, by dsimp only; rw [if_pos ⟨rfl, rfl⟩]⟩
      · cases hp
    · dsimp only
      split
      · rename_i e
        obtain ⟨rfl, rfl⟩ := e
        exact (hs F hF).2.2
      · exact G.sound F hF m b hm hb
    · dsimp only
      split
      · rename_i e
        obtain ⟨rfl, rfl⟩ := e
        exact absurd ⟨hr.1, hr.2.1⟩ hmb
      · exact G.out m b hmb
    · rcases List.mem_append.mp hp with hp | hp
      · exact G.sw F hF p hp
      · rw [List.mem_singleton.mp hp]
        exact hs F hF
    · dsimp only at hmb ⊢
      by_cases e : m = q.1 ∧ b = q.2.1
      · obtain ⟨rfl, rfl⟩ := e
        rw [if_pos ⟨rfl, rfl⟩]
        exact .inl (List.mem_append.mpr (.inr (List.mem_singleton.mpr rfl)))
      · rw [if_neg e] at hmb ⊢
        rcases G.fin hd m b hmb with h | h | h
        · exact .inl (List.mem_append.mpr (.inl h))
        · exact .inr (.inl h)
        · exact .inr (.inr fun p hp => Int.le_trans (h p hp) (hup _ _))
    · dsimp only
      rcases G.firsts hd p hp with h | h
      · exact .inl h
      · exact .inr (Int.le_trans h (hup _ _))
    · dsimp only at hmb hn ⊢
      by_cases e : m = q.1 ∧ b = q.2.1
      · obtain ⟨rfl, rfl⟩ := e
        rw [if_pos ⟨rfl, rfl⟩]
        cases z : isDenied fs (q.1, q.2.1, q.2.2) with
        | false => rfl
        | true =>
          rw [if_pos (show isDenied fs q = true from z)] at hn
          cases hn
      · rw [if_neg e] at hmb ⊢
        exact G.ok hd m b hmb
  · exact G
theorem putAll_cons (l : List Bd) : putAll fs s (q :: l) = putAll fs (K41.put fs s q) l := rfl
theorem putAll_mono : ∀ {l : List Bd} {s : FS} (m b : Nat), s.C m b ≤ (putAll fs s l).C m b
  | [], _, _, _ => Int.le_refl _
  | q :: l, s, m, b => Int.le_trans (put_mono m b) (putAll_mono (l := l) m b)
theorem putAll_den_of : ∀ {l : List Bd} {s : FS}, (putAll fs s l).den = none → s.den = none
  | [], _, h => h
  | q :: l, s, h => put_den_of (putAll_den_of (l := l) h)
theorem putAll_reach : ∀ {l : List Bd} {s : FS}, (putAll fs s l).den = none → ∀ q ∈ l, q.2.2 ≤ (putAll fs s l).C q.1 q.2.1
  | q :: l, s, h, p, hp => by
    rcases List.mem_cons.mp hp with rfl | hp
    · exact Int.le_trans (put_reach (putAll_den_of (l := l) h)) (putAll_mono (l := l) _ _)
    · exact putAll_reach (l := l) h p hp
theorem Go.putAll : ∀ {l : List Bd} {s : FS}, Go N sts fs rem due s → (∀ q ∈ l, InR N sts.length q) → (∀ F, Closed N sts fs F → ∀ q ∈ l, Below N sts.length F q) → Go N sts fs rem due (putAll fs s l)
  | [], _, G, _, _ => G
  | q :: l, s, G, hr, hs => Go.putAll (l := l) (G.put (hr q List.mem_cons_self) fun F hF => hs F hF q List.mem_cons_self) (fun p hp => hr p (List.mem_cons_of_mem _ hp)) fun F hF p hp => hs F hF p (List.mem_cons_of_mem _ hp)
/-- one bound of the turn is done -/
theorem Go.next (X : Fit N sts fs) (G : Go N sts fs (q :: rem) due s) : Go N sts fs rem due (K41.putAll fs s (boundsFrom N sts fs q)) := by
  have hq := G.rr q List.mem_cons_self
  have G1 : Go N sts fs (q :: rem) due (K41.putAll fs s (boundsFrom N sts fs q)) := G.putAll (fun p hp => hq.from_ X hp) fun F hF p hp => hF.from_ (G.sr F hF q List.mem_cons_self) hp
  exact ⟨G1.rng, G1.wr, fun p hp => G1.rr p (List.mem_cons_of_mem _ hp), G1.dr, G1.sound, G1.out, G1.sw, fun F hF p hp => G1.sr F hF p (List.mem_cons_of_mem _ hp), fun hn m b hmb => by
    rcases G1.fin hn m b hmb with h | h | h
    · exact .inl h
    · rcases List.mem_cons.mp h with h | h
      · right; right
        rw [h]
        exact putAll_reach hn
      · exact .inr (.inl h)
    · exact .inr (.inr h), G1.firsts, G1.ok⟩
theorem turn_cons (l : List Bd) : turn N sts fs s (q :: l) = turn N sts fs (K41.putAll fs s (boundsFrom N sts fs q)) l := rfl
theorem Go.turn (X : Fit N sts fs) : ∀ {l : List Bd} {s : FS}, Go N sts fs l due s → Go N sts fs [] due (turn N sts fs s l)
  | [], _, G => G
  | q :: l, s, G => Go.turn X (l := l) (G.next X)
/-- the waiting ones are taken -/
theorem Go.take (G : Go N sts fs [] due s) : Go N sts fs s.wait due ⟨s.C, [], s.den⟩ :=
  ⟨G.rng, (fun _ h => nomatch h), G.wr, G.dr, G.sound, G.out, (fun _ _ _ h => nomatch h), G.sw, fun hn m b hmb => by
    rcases G.fin hn m b hmb with h | h | h
    · exact .inr (.inl h)
    · cases h
    · exact .inr (.inr h), G.firsts, G.ok⟩
/-- one turn of the spreading -/
def step (N : Nat) (sts : List Stp) (fs : List Find) (s : FS) : FS := turn N sts fs ⟨s.C, [], s.den⟩ s.wait
theorem Go.step (X : Fit N sts fs) (G : Go N sts fs [] due s) : Go N sts fs [] due (step N sts fs s) := Go.turn X G.take
theorem Closed.nonneg {F : Nat → Nat → Int} (X : Fit N sts fs) (C : Closed N sts fs F) (b : Nat) (hb : b ≤ N) : ∀ m, m ≤ sts.length → 0 ≤ F m b
  | 0, _ => by
    have := C.first b hb
    omega
  | m + 1, h => by
    have i := Closed.nonneg X C b hb m (by omega)
    have o := C.on m _ b (List.getElem?_eq_getElem (show m < sts.length by omega)) hb
    have c := X.cuts _ (List.getElem_mem (show m < sts.length by omega))
    refine Int.le_trans ?_ o
    unfold cutOn
    split
    · omega
    · split <;> omega
theorem Go.start : Go N sts fs [] (firstBounds N fs) fs0 where
  rng := fun m b => by
    show (-1 : Int) ≤ -1 ∧ (-1 : Int) ≤ N + b
    omega
  wr := fun _ h => nomatch h
  rr := fun _ h => nomatch h
  dr := fun _ h => nomatch h
  sound := fun F hF m b hm hb => hF.low m b hm hb
  out := fun _ _ _ => rfl
  sw := fun _ _ _ h => nomatch h
  sr := fun _ _ _ h => nomatch h
  fin := fun _ _ _ h => absurd rfl h
  firsts := fun _ q h => .inl h
  ok := fun _ _ _ h => absurd rfl h
/-- the first state -/
def first (N : Nat) (fs : List Find) : FS := putAll fs fs0 (firstBounds N fs)
theorem Go.first (X : Fit N sts fs) : Go N sts fs [] [] (first N fs) := by
  have G : Go N sts fs [] (firstBounds N fs) (K41.first N fs) := Go.start.putAll (InR.firsts X) fun F hF q hq => hF.firsts X.finds q hq
  exact ⟨G.rng, G.wr, G.rr, G.dr, G.sound, G.out, G.sw, G.sr, G.fin, fun hn q hq => .inr (putAll_reach hn q hq), G.ok⟩
/-- the end: nothing waits -/
theorem Go.least (X : Fit N sts fs) (G : Go N sts fs [] [] s) (hw : s.wait = []) (hd : s.den = none) : Least N sts fs s.C := by
  have fst : ∀ q ∈ firstBounds N fs, q.2.2 ≤ s.C q.1 q.2.1 := fun q hq => by
    rcases G.firsts hd q hq with h | h
    · cases h
    · exact h
  have fin : ∀ m b, s.C m b ≠ -1 → ∀ p ∈ boundsFrom N sts fs (m, b, s.C m b), p.2.2 ≤ s.C p.1 p.2.1 := fun m b h => by
    rcases G.fin hd m b h with q | q | q
    · rw [hw] at q
      cases q
    · cases q
    · exact q
  have f0 : ∀ b, b ≤ N → (b : Int) ≤ s.C 0 b := fun b hb => by
    refine fst (0, b, (b : Int)) ?_
    unfold firstBounds
    rw [List.mem_append, List.mem_map]
    exact .inl ⟨b, List.mem_range.mpr (by omega), rfl⟩
  have low : ∀ m, m ≤ sts.length → ∀ b, b ≤ N → 0 ≤ s.C m b := fun m => by
    induction m with
    | zero =>
      intro _ b hb
      have := f0 b hb
      omega
    | succ m ih =>
      intro hm b hb
      have i := ih (by omega) b hb
      have hs : sts[m]? = some sts[m] := List.getElem?_eq_getElem (show m < sts.length by omega)
      have o := fin m b (by omega) _ (from_on hs)
      have c := X.cuts _ (List.mem_of_getElem? hs)
      refine Int.le_trans ?_ o
      show 0 ≤ cutOn _ _
      unfold cutOn
      split
      · omega
      · split <;> omega
  have nz : ∀ m b, m ≤ sts.length → b ≤ N → s.C m b ≠ -1 := fun m b hm hb h => by
    have := low m hm b hb
    omega
  have C : Closed N sts fs s.C := by
    refine ⟨fun m b hm hb => by have := low m hm b hb; omega, f0, fun f hf => ?_, fun m b hm hb => ?_, fun m b hm hb h => ?_, fun m u b hu hb => ?_, fun m u b hu hb => ?_⟩
    · refine fst (f.1, f.2.2 + 1, (f.2.1 : Int) + 1) ?_
      unfold firstBounds
      rw [List.mem_append, List.mem_map, List.mem_map]
      exact .inr ⟨f, hf, rfl⟩
    · exact fin m b (nz m b hm (by omega)) _ (from_up hb)
    · exact fin m b (nz m b hm (by omega)) _ (from_shn hb h)
    · exact fin m b (nz m b (Nat.le_of_lt (lt_of_get hu)) hb) _ (from_on hu)
    · exact fin (m + 1) b (nz (m + 1) b (lt_of_get hu) hb) _ (from_back hu)
  refine ⟨C, G.sound, fun b hb => ?_, fun f hf => ?_⟩
  · have := G.ok hd 0 b (nz 0 b (Nat.zero_le _) hb)
    by_cases h : s.C 0 b ≤ b
    · exact h
    · rw [isDenied_iff.mpr (.inl ⟨rfl, by show (b : Int) < s.C 0 b; omega⟩)] at this
      cases this
  · obtain ⟨a1, a2, a3⟩ := X.finds f hf
    have := G.ok hd f.1 f.2.2 (nz f.1 f.2.2 a1 (Nat.le_of_lt a3))
    by_cases h : s.C f.1 f.2.2 ≤ f.2.1
    · exact h
    · rw [isDenied_iff.mpr (.inr ⟨f, hf, rfl, rfl, by show (f.2.1 : Int) < s.C f.1 f.2.2; omega⟩)] at this
      cases this
theorem Go.none_good (X : Fit N sts fs) (G : Go N sts fs [] [] s) (hd : s.den ≠ none) (d : List Bool) : ¬ Good sts fs d := fun g => by
  cases e : s.den with
  | none => exact hd e
  | some q =>
    obtain ⟨hr, hden, hC⟩ := G.dr q e
    have C := g.closed (N := N) fun s h => (X.cuts s h).1
    have h := G.sound _ C q.1 q.2.1 hr.1 hr.2.1
    rw [hC] at h
    rcases isDenied_iff.mp hden with ⟨h0, h1⟩ | ⟨f, hf, h1, h2, h3⟩
    · rw [h0] at h
      have h' : q.2.2 ≤ (q.2.1 : Int) := h
      omega
    · have := (g.finds f hf).1
      rw [h1, h2] at this
      omega
/-! ### the spreading ends -/
/-- the turn's measure -/
def meas (M N : Nat) (s : FS) : Nat := 2 * pot M N s.C + (if s.wait = [] then 0 else 1)
theorem put_pot (hr : InR N sts.length q) (ht : ∀ m b, -1 ≤ s.C m b ∧ s.C m b ≤ N + b) :
    ((put fs s q).C = s.C ∧ (put fs s q).wait = s.wait ∧ (put fs s q).den = s.den) ∨ (pot sts.length N (put fs s q).C < pot sts.length N s.C ∧ (put fs s q).wait = s.wait ++ [q]) := by
  by_cases h : s.den = none ∧ s.C q.1 q.2.1 < q.2.2
  · right
    have e : put fs s q = ⟨fun m b => if m = q.1 ∧ b = q.2.1 then q.2.2 else s.C m b, s.wait ++ [q], if isDenied fs q = true then some q else none⟩ := if_pos h
    refine ⟨?_, by rw [e]⟩
    refine pot_lt (m := q.1) (b := q.2.1) (fun m b => put_mono m b) hr.1 hr.2.1 ?_ ?_
    · rw [e]
      dsimp only
      rw [if_pos ⟨rfl, rfl⟩]
      exact h.2
    · rw [e]
      dsimp only
      rw [if_pos ⟨rfl, rfl⟩]
      exact hr.2.2
  · left
    have e : put fs s q = s := if_neg h
    rw [e]
    exact ⟨rfl, rfl, rfl⟩
/-- nothing has changed, or the potential has fallen -/
def Prog (M N : Nat) (s s' : FS) : Prop := (s'.C = s.C ∧ s'.wait = s.wait ∧ s'.den = s.den) ∨ pot M N s'.C < pot M N s.C
theorem Prog.refl (M N : Nat) (s : FS) : Prog M N s s := .inl ⟨rfl, rfl, rfl⟩
theorem Prog.trans {M N : Nat} {s s' s'' : FS} (a : Prog M N s s') (b : Prog M N s' s'') : Prog M N s s'' := by
  rcases a with ⟨a1, a2, a3⟩ | a
  · rcases b with ⟨b1, b2, b3⟩ | b
    · exact .inl ⟨b1.trans a1, b2.trans a2, b3.trans a3⟩
    · exact .inr (by rw [← a1]; exact b)
  · rcases b with ⟨b1, _, _⟩ | b
    · exact .inr (by rw [b1]; exact a)
    · exact .inr (Nat.lt_trans b a)
theorem Go.prog (G : Go N sts fs rem due s) (hr : InR N sts.length q) : Prog sts.length N s (K41.put fs s q) := by
  rcases put_pot (fs := fs) hr G.rng with h | ⟨h, _⟩
  · exact .inl h
  · exact .inr h
theorem Go.progAll : ∀ {l : List Bd} {s : FS}, Go N sts fs rem due s → (∀ q ∈ l, InR N sts.length q) → (∀ F, Closed N sts fs F → ∀ q ∈ l, Below N sts.length F q) → Prog sts.length N s (K41.putAll fs s l)
  | [], _, _, _, _ => Prog.refl _ _ _
  | q :: l, s, G, hr, hs => (G.prog (hr q List.mem_cons_self)).trans (Go.progAll (l := l) (G.put (hr q List.mem_cons_self) fun F hF => hs F hF q List.mem_cons_self) (fun p hp => hr p (List.mem_cons_of_mem _ hp)) fun F hF p hp => hs F hF p (List.mem_cons_of_mem _ hp))
theorem Go.progTurn (X : Fit N sts fs) : ∀ {l : List Bd} {s : FS}, Go N sts fs l due s → Prog sts.length N s (K41.turn N sts fs s l)
  | [], _, _ => Prog.refl _ _ _
  | q :: l, s, G => by
    have hq := G.rr q List.mem_cons_self
    exact (Go.progAll (l := boundsFrom N sts fs q) G (fun p hp => hq.from_ X hp) fun F hF p hp => hF.from_ (G.sr F hF q List.mem_cons_self) hp).trans (Go.progTurn X (l := l) (G.next X))
/-- each turn of the spreading makes the measure less -/
theorem Go.falls (X : Fit N sts fs) (G : Go N sts fs [] due s) (hw : s.wait ≠ []) : meas sts.length N (K41.step N sts fs s) < meas sts.length N s := by
  have h := Go.progTurn X G.take
  show 2 * pot sts.length N (K41.step N sts fs s).C + (if (K41.step N sts fs s).wait = [] then 0 else 1) < 2 * pot sts.length N s.C + (if s.wait = [] then 0 else 1)
  rw [if_neg hw]
  rcases h with ⟨h1, h2, _⟩ | h
  · have e1 : (K41.step N sts fs s).C = s.C := h1
    have e2 : (K41.step N sts fs s).wait = [] := h2
    rw [e1, if_pos e2]
    omega
  · have h' : pot sts.length N (K41.step N sts fs s).C < pot sts.length N s.C := h
    split <;> omega
/-- pot + the waiting ones never grow -/
theorem put_size (hr : InR N sts.length q) (ht : ∀ m b, -1 ≤ s.C m b ∧ s.C m b ≤ N + b) : pot sts.length N (put fs s q).C + (put fs s q).wait.length ≤ pot sts.length N s.C + s.wait.length := by
  rcases put_pot (fs := fs) hr ht with ⟨a, b, _⟩ | ⟨a, b⟩
  · rw [a, b]
    exact Nat.le_refl _
  · rw [b, List.length_append, List.length_singleton]
    omega
end
end K41
/-! K41Tab: the tables of the least and of the greatest cuts. -/
namespace K41
structure InpOk (N : Nat) (rows : List Row) (fs : List Find) : Prop where
  n1 : 1 ≤ N
  n2 : N ≤ 12
  len : rows.length ≤ 60
  rowsOk : ∀ r ∈ rows, RowOk N r
  flen : fs.length ≤ 40
  findsOk : ∀ f ∈ fs, FindOk N rows.length f
theorem stepsOf_len (rows : List Row) : (stepsOf rows).length = rows.length := List.length_map _
theorem InpOk.fit {N : Nat} {rows : List Row} {fs : List Find} (I : InpOk N rows fs) : Fit N (stepsOf rows) fs where
  cuts := fun s hs => by
    obtain ⟨r, hr, rfl⟩ := List.mem_map.mp hs
    obtain ⟨h1, h2, h3⟩ := I.rowsOk r hr
    show 1 ≤ max r.1 r.2.1 ∧ max r.1 r.2.1 < N
    omega
  finds := fun f hf => by
    rw [stepsOf_len]
    exact I.findsOk f hf
theorem turnRow_ok {N : Nat} {r : Row} (h : RowOk N r) : RowOk N (turnRow N r) := by
  obtain ⟨h1, h2, h3⟩ := h
  show N - 1 - r.1 < N ∧ N - 1 - r.2.1 < N ∧ (N - 1 - r.1 = N - 1 - r.2.1 + 1 ∨ N - 1 - r.2.1 = N - 1 - r.1 + 1)
  omega
theorem turnFind_ok {N M : Nat} {f : Find} (h : FindOk N M f) : FindOk N M (turnFind N f) := by
  obtain ⟨h1, h2, h3⟩ := h
  show f.1 ≤ M ∧ N - 1 - f.2.1 < N ∧ N - 1 - f.2.2 < N
  omega
theorem InpOk.turn {N : Nat} {rows : List Row} {fs : List Find} (I : InpOk N rows fs) : InpOk N (rows.map (turnRow N)) (fs.map (turnFind N)) where
  n1 := I.n1
  n2 := I.n2
  len := by
    rw [List.length_map]
    exact I.len
  rowsOk := fun r hr => by
    obtain ⟨q, hq, rfl⟩ := List.mem_map.mp hr
    exact turnRow_ok (I.rowsOk q hq)
  flen := by
    rw [List.length_map]
    exact I.flen
  findsOk := fun r hr => by
    obtain ⟨q, hq, rfl⟩ := List.mem_map.mp hr
    rw [List.length_map]
    exact turnFind_ok (I.findsOk q hq)
def tabOf (N M : Nat) (L : Nat → Nat → Int) : List (List Int) := (List.range (M + 1)).map fun m => (List.range (N + 1)).map fun b => L m b
open Classical in
noncomputable def lowTab (N : Nat) (rows : List Row) (fs : List Find) : Option (List (List Int)) :=
  if h : ∃ L, Least N (stepsOf rows) fs L then some (tabOf N rows.length (Classical.choose h)) else none
theorem tabOf_congr {N M : Nat} {L L' : Nat → Nat → Int} (h : ∀ m b, m ≤ M → b ≤ N → L m b = L' m b) : tabOf N M L = tabOf N M L' := by
  unfold tabOf
  apply List.map_congr_left
  intro m hm
  apply List.map_congr_left
  intro b hb
  have := List.mem_range.mp hm
  have := List.mem_range.mp hb
  exact h m b (by omega) (by omega)
theorem lowTab_some {N : Nat} {rows : List Row} {fs : List Find} {L : Nat → Nat → Int} (X : Least N (stepsOf rows) fs L) : lowTab N rows fs = some (tabOf N rows.length L) := by
  have h : ∃ L, Least N (stepsOf rows) fs L := ⟨L, X⟩
  unfold lowTab
  rw [dif_pos h]
  refine congrArg some (tabOf_congr fun m b hm hb => ?_)
  have Y := Classical.choose_spec h
  have h1 := X.least _ Y.closed m b (by rw [stepsOf_len]; exact hm) hb
  have h2 := Y.least _ X.closed m b (by rw [stepsOf_len]; exact hm) hb
  omega
theorem lowTab_none {N : Nat} {rows : List Row} {fs : List Find} (X : ¬ ∃ L, Least N (stepsOf rows) fs L) : lowTab N rows fs = none := by
  unfold lowTab
  rw [dif_neg X]
/-- what the end of the spreading tells -/
theorem low_of_end {N : Nat} {rows : List Row} {fs : List Find} {s : FS} (I : InpOk N rows fs) (G : Go N (stepsOf rows) fs [] [] s) (h : s.wait = [] ∨ s.den ≠ none) :
    (s.den = none ∧ lowTab N rows fs = some (tabOf N rows.length s.C)) ∨ (s.den ≠ none ∧ lowTab N rows fs = none) := by
  cases e : s.den with
  | none =>
    refine .inl ⟨rfl, lowTab_some (G.least I.fit ?_ e)⟩
    rcases h with h | h
    · exact h
    · exact absurd e h
  | some q =>
    refine .inr ⟨(fun z => nomatch z), lowTab_none ?_⟩
    rintro ⟨L, X⟩
    exact G.none_good I.fit (by rw [e]; intro z; cases z) _ (X.good I.fit.finds)
def turnTab (N : Nat) (t : List (List Int)) : List (List Int) := t.map fun c => c.reverse.map fun x => (N : Int) - x
noncomputable def highTab (N : Nat) (rows : List Row) (fs : List Find) : Option (List (List Int)) := (lowTab N (rows.map (turnRow N)) (fs.map (turnFind N))).map (turnTab N)
theorem tab_len {N : Nat} {rows : List Row} {fs : List Find} {t : List (List Int)} (h : lowTab N rows fs = some t) : t.length = rows.length + 1 ∧ ∀ c ∈ t, c.length = N + 1 := by
  unfold lowTab at h
  split at h
  · cases h
    unfold tabOf
    refine ⟨by rw [List.length_map, List.length_range], fun c hc => ?_⟩
    obtain ⟨m, _, rfl⟩ := List.mem_map.mp hc
    rw [List.length_map, List.length_range]
  · cases h
end K41
set_option Elab.async false
set_option linter.all false
set_option maxRecDepth 100000
set_option maxHeartbeats 0
namespace K41
open PySem PySem.Spec PyProof.Rows L2
/-! the program's text by places; what its top leaves -/
def top (i : Nat) : Stmt := PySem.Challenge.pw_takenover_k41_whole_greatest_cuts_and_mi.main.body.getD i (.Pass ⟨0, 0, 0, 0⟩)
abbrev st_is_integer : Stmt := top 7
abbrev st_is_within : Stmt := top 8
abbrev st_is_listed : Stmt := top 9
abbrev st_is_triple : Stmt := top 10
abbrev st_is_flag : Stmt := top 11
abbrev st_is_row : Stmt := top 14
abbrev st_first_bad : Stmt := top 15
abbrev st_Log_init : Stmt := inClass (top 16) 0
abbrev st_raw_log : Stmt := top 17
abbrev st_is_left : Stmt := top 18
abbrev st_cut_of : Stmt := top 19
abbrev st_turned_row : Stmt := top 21
abbrev st_mirrored : Stmt := top 22
abbrev st_is_find : Stmt := top 27
abbrev st_check_finds : Stmt := top 28
abbrev st_step_of : Stmt := top 29
abbrev st_steps_of : Stmt := top 30
abbrev st_cut_on : Stmt := top 31
abbrev st_cut_back : Stmt := top 32
abbrev st_latest_shown : Stmt := top 33
abbrev st_first_bounds : Stmt := top 34
abbrev st_is_denied : Stmt := top 35
abbrev st_bounds_from : Stmt := top 36
abbrev st_Family_init : Stmt := inClass (top 37) 0
abbrev st_Family_put : Stmt := inClass (top 37) 1
abbrev st_Family_spread : Stmt := inClass (top 37) 2
abbrev st_family_of : Stmt := top 38
abbrev st_fits : Stmt := top 39
abbrev st_fit : Stmt := top 40
abbrev st_low_cuts : Stmt := top 41
abbrev st_least_cuts : Stmt := top 42
abbrev st_turned_finds : Stmt := top 43
abbrev st_high_cuts : Stmt := top 44
abbrev st_greatest_cuts : Stmt := top 45
abbrev st_mirrored_finds : Stmt := top 46
abbrev st__law_hand : Stmt := top 48
abbrev st__law_draw : Stmt := top 49
abbrev st__law_row : Stmt := top 50
abbrev st__law_rows : Stmt := top 51
abbrev st__law_led : Stmt := top 52
abbrev st__law_doings : Stmt := top 53
abbrev st__law_some_doing : Stmt := top 54
abbrev st__law_finds : Stmt := top 55
abbrev st__law_are_true : Stmt := top 56
abbrev st__law_good : Stmt := top 57
abbrev st__law_is : Stmt := top 58
abbrev st__law_cuts : Stmt := top 59
abbrev st__law_turned_cuts : Stmt := top 60
abbrev st_law : Stmt := top 61
abbrev FnP (K : PySem.W.Frag) (x q : Str) (st : Stmt) (f : Addr) (fd : FuncData) : Prop := FunD K x q (defArgs st) (defBody st) (defScope st) [] [] f fd
def dd_is_integer : He.DefD := ⟨("is_integer", none), "is_integer", "is_integer", defArgs st_is_integer, defBody st_is_integer, defScope st_is_integer, [], []⟩
def dd_is_within : He.DefD := ⟨("is_within", none), "is_within", "is_within", defArgs st_is_within, defBody st_is_within, defScope st_is_within, [], []⟩
def dd_is_listed : He.DefD := ⟨("is_listed", none), "is_listed", "is_listed", defArgs st_is_listed, defBody st_is_listed, defScope st_is_listed, [], []⟩
def dd_is_triple : He.DefD := ⟨("is_triple", none), "is_triple", "is_triple", defArgs st_is_triple, defBody st_is_triple, defScope st_is_triple, [], []⟩
def dd_is_flag : He.DefD := ⟨("is_flag", none), "is_flag", "is_flag", defArgs st_is_flag, defBody st_is_flag, defScope st_is_flag, [], []⟩
def dd_is_row : He.DefD := ⟨("is_row", none), "is_row", "is_row", defArgs st_is_row, defBody st_is_row, defScope st_is_row, [], []⟩
def dd_first_bad : He.DefD := ⟨("first_bad", none), "first_bad", "first_bad", defArgs st_first_bad, defBody st_first_bad, defScope st_first_bad, [], []⟩
def dd_Log_init : He.DefD := ⟨("Log", some "__init__"), "__init__", "Log.__init__", defArgs st_Log_init, defBody st_Log_init, defScope st_Log_init, [], []⟩
def dd_raw_log : He.DefD := ⟨("raw_log", none), "raw_log", "raw_log", defArgs st_raw_log, defBody st_raw_log, defScope st_raw_log, [], []⟩
def dd_is_left : He.DefD := ⟨("is_left", none), "is_left", "is_left", defArgs st_is_left, defBody st_is_left, defScope st_is_left, [], []⟩
def dd_cut_of : He.DefD := ⟨("cut_of", none), "cut_of", "cut_of", defArgs st_cut_of, defBody st_cut_of, defScope st_cut_of, [], []⟩
def dd_turned_row : He.DefD := ⟨("turned_row", none), "turned_row", "turned_row", defArgs st_turned_row, defBody st_turned_row, defScope st_turned_row, [], []⟩
def dd_mirrored : He.DefD := ⟨("mirrored", none), "mirrored", "mirrored", defArgs st_mirrored, defBody st_mirrored, defScope st_mirrored, [], []⟩
def dd_is_find : He.DefD := ⟨("is_find", none), "is_find", "is_find", defArgs st_is_find, defBody st_is_find, defScope st_is_find, [], []⟩
def dd_check_finds : He.DefD := ⟨("check_finds", none), "check_finds", "check_finds", defArgs st_check_finds, defBody st_check_finds, defScope st_check_finds, [], []⟩
def dd_step_of : He.DefD := ⟨("step_of", none), "step_of", "step_of", defArgs st_step_of, defBody st_step_of, defScope st_step_of, [], []⟩
def dd_steps_of : He.DefD := ⟨("steps_of", none), "steps_of", "steps_of", defArgs st_steps_of, defBody st_steps_of, defScope st_steps_of, [], []⟩
def dd_cut_on : He.DefD := ⟨("cut_on", none), "cut_on", "cut_on", defArgs st_cut_on, defBody st_cut_on, defScope st_cut_on, [], []⟩
def dd_cut_back : He.DefD := ⟨("cut_back", none), "cut_back", "cut_back", defArgs st_cut_back, defBody st_cut_back, defScope st_cut_back, [], []⟩
def dd_latest_shown : He.DefD := ⟨("latest_shown", none), "latest_shown", "latest_shown", defArgs st_latest_shown, defBody st_latest_shown, defScope st_latest_shown, [], []⟩
def dd_first_bounds : He.DefD := ⟨("first_bounds", none), "first_bounds", "first_bounds", defArgs st_first_bounds, defBody st_first_bounds, defScope st_first_bounds, [], []⟩
def dd_is_denied : He.DefD := ⟨("is_denied", none), "is_denied", "is_denied", defArgs st_is_denied, defBody st_is_denied, defScope st_is_denied, [], []⟩
def dd_bounds_from : He.DefD := ⟨("bounds_from", none), "bounds_from", "bounds_from", defArgs st_bounds_from, defBody st_bounds_from, defScope st_bounds_from, [], []⟩
def dd_Family_init : He.DefD := ⟨("Family", some "__init__"), "__init__", "Family.__init__", defArgs st_Family_init, defBody st_Family_init, defScope st_Family_init, [], []⟩
def dd_Family_put : He.DefD := ⟨("Family", some "put"), "put", "Family.put", defArgs st_Family_put, defBody st_Family_put, defScope st_Family_put, [], []⟩
def dd_Family_spread : He.DefD := ⟨("Family", some "spread"), "spread", "Family.spread", defArgs st_Family_spread, defBody st_Family_spread, defScope st_Family_spread, [], []⟩
def dd_family_of : He.DefD := ⟨("family_of", none), "family_of", "family_of", defArgs st_family_of, defBody st_family_of, defScope st_family_of, [], []⟩
def dd_fits : He.DefD := ⟨("fits", none), "fits", "fits", defArgs st_fits, defBody st_fits, defScope st_fits, [], []⟩
def dd_fit : He.DefD := ⟨("fit", none), "fit", "fit", defArgs st_fit, defBody st_fit, defScope st_fit, [], []⟩
def dd_low_cuts : He.DefD := ⟨("low_cuts", none), "low_cuts", "low_cuts", defArgs st_low_cuts, defBody st_low_cuts, defScope st_low_cuts, [], []⟩
def dd_least_cuts : He.DefD := ⟨("least_cuts", none), "least_cuts", "least_cuts", defArgs st_least_cuts, defBody st_least_cuts, defScope st_least_cuts, [], []⟩
def dd_turned_finds : He.DefD := ⟨("turned_finds", none), "turned_finds", "turned_finds", defArgs st_turned_finds, defBody st_turned_finds, defScope st_turned_finds, [], []⟩
def dd_high_cuts : He.DefD := ⟨("high_cuts", none), "high_cuts", "high_cuts", defArgs st_high_cuts, defBody st_high_cuts, defScope st_high_cuts, [], []⟩
def dd_greatest_cuts : He.DefD := ⟨("greatest_cuts", none), "greatest_cuts", "greatest_cuts", defArgs st_greatest_cuts, defBody st_greatest_cuts, defScope st_greatest_cuts, [], []⟩
def dd_mirrored_finds : He.DefD := ⟨("mirrored_finds", none), "mirrored_finds", "mirrored_finds", defArgs st_mirrored_finds, defBody st_mirrored_finds, defScope st_mirrored_finds, [], []⟩
def dd__law_hand : He.DefD := ⟨("_law_hand", none), "_law_hand", "_law_hand", defArgs st__law_hand, defBody st__law_hand, defScope st__law_hand, [], []⟩
def dd__law_draw : He.DefD := ⟨("_law_draw", none), "_law_draw", "_law_draw", defArgs st__law_draw, defBody st__law_draw, defScope st__law_draw, [], []⟩
def dd__law_row : He.DefD := ⟨("_law_row", none), "_law_row", "_law_row", defArgs st__law_row, defBody st__law_row, defScope st__law_row, [], []⟩
def dd__law_rows : He.DefD := ⟨("_law_rows", none), "_law_rows", "_law_rows", defArgs st__law_rows, defBody st__law_rows, defScope st__law_rows, [], []⟩
def dd__law_led : He.DefD := ⟨("_law_led", none), "_law_led", "_law_led", defArgs st__law_led, defBody st__law_led, defScope st__law_led, [], []⟩
def dd__law_doings : He.DefD := ⟨("_law_doings", none), "_law_doings", "_law_doings", defArgs st__law_doings, defBody st__law_doings, defScope st__law_doings, [], []⟩
def dd__law_some_doing : He.DefD := ⟨("_law_some_doing", none), "_law_some_doing", "_law_some_doing", defArgs st__law_some_doing, defBody st__law_some_doing, defScope st__law_some_doing, [], []⟩
def dd__law_finds : He.DefD := ⟨("_law_finds", none), "_law_finds", "_law_finds", defArgs st__law_finds, defBody st__law_finds, defScope st__law_finds, [], []⟩
def dd__law_are_true : He.DefD := ⟨("_law_are_true", none), "_law_are_true", "_law_are_true", defArgs st__law_are_true, defBody st__law_are_true, defScope st__law_are_true, [], []⟩
def dd__law_good : He.DefD := ⟨("_law_good", none), "_law_good", "_law_good", defArgs st__law_good, defBody st__law_good, defScope st__law_good, [], []⟩
def dd__law_is : He.DefD := ⟨("_law_is", none), "_law_is", "_law_is", defArgs st__law_is, defBody st__law_is, defScope st__law_is, [], []⟩
def dd__law_cuts : He.DefD := ⟨("_law_cuts", none), "_law_cuts", "_law_cuts", defArgs st__law_cuts, defBody st__law_cuts, defScope st__law_cuts, [], []⟩
def dd__law_turned_cuts : He.DefD := ⟨("_law_turned_cuts", none), "_law_turned_cuts", "_law_turned_cuts", defArgs st__law_turned_cuts, defBody st__law_turned_cuts, defScope st__law_turned_cuts, [], []⟩
def dd_law : He.DefD := ⟨("law", none), "law", "law", defArgs st_law, defBody st_law, defScope st_law, [], []⟩
def fn : List He.DefD := [dd_is_integer, dd_is_within, dd_is_listed, dd_is_triple, dd_is_flag, dd_is_row, dd_first_bad, dd_Log_init, dd_raw_log, dd_is_left, dd_cut_of, dd_turned_row, dd_mirrored, dd_is_find, dd_check_finds, dd_step_of, dd_steps_of, dd_cut_on, dd_cut_back, dd_latest_shown, dd_first_bounds, dd_is_denied, dd_bounds_from, dd_Family_init, dd_Family_put, dd_Family_spread, dd_family_of, dd_fits, dd_fit, dd_low_cuts, dd_least_cuts, dd_turned_finds, dd_high_cuts, dd_greatest_cuts, dd_mirrored_finds, dd__law_hand, dd__law_draw, dd__law_row, dd__law_rows, dd__law_led, dd__law_doings, dd__law_some_doing, dd__law_finds, dd__law_are_true, dd__law_good, dd__law_is, dd__law_cuts, dd__law_turned_cuts, dd_law]
def fa : List He.Fa := [.glo "is_integer", .glo "is_within", .glo "is_listed", .glo "is_triple", .glo "is_flag", .glo "is_row", .glo "first_bad", .glo "raw_log", .glo "is_left", .glo "cut_of", .glo "turned_row", .glo "mirrored", .glo "is_find", .glo "check_finds", .glo "step_of", .glo "steps_of", .glo "cut_on", .glo "cut_back", .glo "latest_shown", .glo "first_bounds", .glo "is_denied", .glo "bounds_from", .glo "family_of", .glo "fits", .glo "fit", .glo "low_cuts", .glo "least_cuts", .glo "turned_finds", .glo "high_cuts", .glo "greatest_cuts", .glo "mirrored_finds", .glo "_law_hand", .glo "_law_draw", .glo "_law_row", .glo "_law_rows", .glo "_law_led", .glo "_law_doings", .glo "_law_some_doing", .glo "_law_finds", .glo "_law_are_true", .glo "_law_good", .glo "_law_is", .glo "_law_cuts", .glo "_law_turned_cuts", .glo "law", .glo "Log", .glo "Family", .free "isinstance", .free "int", .free "bool", .free "list", .free "tuple", .free "len", .free "all", .free "any", .free "max", .free "abs", .free "enumerate", .free "range", .free "zip", .int "MOST_OFFICES" 12, .int "MOST_ROWS" 60, .int "MOST_FINDS" 40, .str "ON_LEFT" "left", .str "ON_RIGHT" "right", .cls "Log", .mkr "Log", .noat "Log" "offices", .noat "Log" "rows", .cls "Family", .mkr "Family", .noat "Family" "offices", .noat "Family" "steps", .noat "Family" "finds", .noat "Family" "latest", .noat "Family" "cuts", .noat "Family" "came", .noat "Family" "denied", .noat "Family" "waiting", .meth "Family" "put", .meth "Family" "spread"]
abbrev R : PySem.W.OpenRow := PySem.W.OpenLaw.row PySem.Challenge.rw_takenover_k41_whole_greatest_cuts_and_mi
abbrev hk : PySem.W.Hook := He.hookD 4 fa fn
def ob (s : PySem.W.SharedT) : He.AlD := He.obsDG 4 fa fn (HandSHeadRun.getT s)
theorem ob_eq (s : PySem.W.SharedT) : ob s = hk.obs s.abs := He.obsDG_eq (HandSHeadRun.getT_eq s)
def loose1 : List Str := [("_wall" : Str), ("__name__" : Str), ("SheetError" : Str), ("NoFinds" : Str), ("BadLog" : Str), ("MOST_OFFICES" : Str), ("is_integer" : Str), ("is_within" : Str), ("is_listed" : Str), ("is_triple" : Str), ("is_flag" : Str), ("MOST_ROWS" : Str), ("is_row" : Str), ("first_bad" : Str), ("Log" : Str), ("raw_log" : Str), ("is_left" : Str), ("cut_of" : Str), ("turned_row" : Str), ("mirrored" : Str), ("MOST_FINDS" : Str), ("ON_LEFT" : Str), ("ON_RIGHT" : Str), ("is_find" : Str), ("check_finds" : Str), ("step_of" : Str), ("steps_of" : Str), ("cut_on" : Str), ("cut_back" : Str), ("latest_shown" : Str), ("first_bounds" : Str), ("is_denied" : Str), ("bounds_from" : Str), ("Family" : Str), ("family_of" : Str)]
def loose2 : List Str := [("fits" : Str), ("fit" : Str), ("low_cuts" : Str), ("least_cuts" : Str), ("turned_finds" : Str), ("high_cuts" : Str), ("greatest_cuts" : Str), ("mirrored_finds" : Str), ("_law_hand" : Str), ("_law_draw" : Str), ("_law_row" : Str), ("_law_rows" : Str), ("_law_led" : Str), ("_law_doings" : Str), ("_law_some_doing" : Str), ("_law_finds" : Str), ("_law_are_true" : Str), ("_law_good" : Str), ("_law_is" : Str), ("_law_cuts" : Str), ("_law_turned_cuts" : Str)]
def looseAll : List Str := loose1 ++ loose2
theorem run (w : World) : HandSHeadRun.RunEq R (PySem.W.view R.prog [61]) hk ob 6000 looseAll w := by
  intro os
  kernel_rfl
/-- what the walk leans on -/
structure Txt (K : PySem.W.Frag) (mg : Str → Option Value) : Prop where
  g_is_integer : mg "is_integer" = some (.ref (He.ga K "is_integer"))
  g_is_within : mg "is_within" = some (.ref (He.ga K "is_within"))
  g_is_listed : mg "is_listed" = some (.ref (He.ga K "is_listed"))
  g_is_triple : mg "is_triple" = some (.ref (He.ga K "is_triple"))
  g_is_flag : mg "is_flag" = some (.ref (He.ga K "is_flag"))
  g_is_row : mg "is_row" = some (.ref (He.ga K "is_row"))
  g_first_bad : mg "first_bad" = some (.ref (He.ga K "first_bad"))
  g_raw_log : mg "raw_log" = some (.ref (He.ga K "raw_log"))
  g_is_left : mg "is_left" = some (.ref (He.ga K "is_left"))
  g_cut_of : mg "cut_of" = some (.ref (He.ga K "cut_of"))
  g_turned_row : mg "turned_row" = some (.ref (He.ga K "turned_row"))
  g_mirrored : mg "mirrored" = some (.ref (He.ga K "mirrored"))
  g_is_find : mg "is_find" = some (.ref (He.ga K "is_find"))
  g_check_finds : mg "check_finds" = some (.ref (He.ga K "check_finds"))
  g_step_of : mg "step_of" = some (.ref (He.ga K "step_of"))
  g_steps_of : mg "steps_of" = some (.ref (He.ga K "steps_of"))
  g_cut_on : mg "cut_on" = some (.ref (He.ga K "cut_on"))
  g_cut_back : mg "cut_back" = some (.ref (He.ga K "cut_back"))
  g_latest_shown : mg "latest_shown" = some (.ref (He.ga K "latest_shown"))
  g_first_bounds : mg "first_bounds" = some (.ref (He.ga K "first_bounds"))
  g_is_denied : mg "is_denied" = some (.ref (He.ga K "is_denied"))
  g_bounds_from : mg "bounds_from" = some (.ref (He.ga K "bounds_from"))
  g_family_of : mg "family_of" = some (.ref (He.ga K "family_of"))
  g_fits : mg "fits" = some (.ref (He.ga K "fits"))
  g_fit : mg "fit" = some (.ref (He.ga K "fit"))
  g_low_cuts : mg "low_cuts" = some (.ref (He.ga K "low_cuts"))
  g_least_cuts : mg "least_cuts" = some (.ref (He.ga K "least_cuts"))
  g_turned_finds : mg "turned_finds" = some (.ref (He.ga K "turned_finds"))
  g_high_cuts : mg "high_cuts" = some (.ref (He.ga K "high_cuts"))
  g_greatest_cuts : mg "greatest_cuts" = some (.ref (He.ga K "greatest_cuts"))
  g_mirrored_finds : mg "mirrored_finds" = some (.ref (He.ga K "mirrored_finds"))
  g__law_hand : mg "_law_hand" = some (.ref (He.ga K "_law_hand"))
  g__law_draw : mg "_law_draw" = some (.ref (He.ga K "_law_draw"))
  g__law_row : mg "_law_row" = some (.ref (He.ga K "_law_row"))
  g__law_rows : mg "_law_rows" = some (.ref (He.ga K "_law_rows"))
  g__law_led : mg "_law_led" = some (.ref (He.ga K "_law_led"))
  g__law_doings : mg "_law_doings" = some (.ref (He.ga K "_law_doings"))
  g__law_some_doing : mg "_law_some_doing" = some (.ref (He.ga K "_law_some_doing"))
  g__law_finds : mg "_law_finds" = some (.ref (He.ga K "_law_finds"))
  g__law_are_true : mg "_law_are_true" = some (.ref (He.ga K "_law_are_true"))
  g__law_good : mg "_law_good" = some (.ref (He.ga K "_law_good"))
  g__law_is : mg "_law_is" = some (.ref (He.ga K "_law_is"))
  g__law_cuts : mg "_law_cuts" = some (.ref (He.ga K "_law_cuts"))
  g__law_turned_cuts : mg "_law_turned_cuts" = some (.ref (He.ga K "_law_turned_cuts"))
  g_law : mg "law" = some (.ref (He.ga K "law"))
  g_Log : mg "Log" = some (.ref (He.ga K "Log"))
  g_Family : mg "Family" = some (.ref (He.ga K "Family"))
  f_isinstance : mg "isinstance" = none
  f_int : mg "int" = none
  f_bool : mg "bool" = none
  f_list : mg "list" = none
  f_tuple : mg "tuple" = none
  f_len : mg "len" = none
  f_all : mg "all" = none
  f_any : mg "any" = none
  f_max : mg "max" = none
  f_abs : mg "abs" = none
  f_enumerate : mg "enumerate" = none
  f_range : mg "range" = none
  f_zip : mg "zip" = none
  i_MOST_OFFICES : ∃ t, mg "MOST_OFFICES" = some (.int 12 t)
  i_MOST_ROWS : ∃ t, mg "MOST_ROWS" = some (.int 60 t)
  i_MOST_FINDS : ∃ t, mg "MOST_FINDS" = some (.int 40 t)
  s_ON_LEFT : ∃ t, mg "ON_LEFT" = some (.str "left" t)
  s_ON_RIGHT : ∃ t, mg "ON_RIGHT" = some (.str "right" t)
  c_Log : Cls K (He.ga K "Log")
  k_Log : Mk K (He.ga K "Log") (He.ma K (He.ga K "Log") "__init__")
  n_Log_offices : NoAttr K (He.ga K "Log") "offices"
  n_Log_rows : NoAttr K (He.ga K "Log") "rows"
  c_Family : Cls K (He.ga K "Family")
  k_Family : Mk K (He.ga K "Family") (He.ma K (He.ga K "Family") "__init__")
  n_Family_offices : NoAttr K (He.ga K "Family") "offices"
  n_Family_steps : NoAttr K (He.ga K "Family") "steps"
  n_Family_finds : NoAttr K (He.ga K "Family") "finds"
  n_Family_latest : NoAttr K (He.ga K "Family") "latest"
  n_Family_cuts : NoAttr K (He.ga K "Family") "cuts"
  n_Family_came : NoAttr K (He.ga K "Family") "came"
  n_Family_denied : NoAttr K (He.ga K "Family") "denied"
  n_Family_waiting : NoAttr K (He.ga K "Family") "waiting"
  m_put : Meth K (He.ga K "Family") "put" (He.ma K (He.ga K "Family") "put")
  m_spread : Meth K (He.ga K "Family") "spread" (He.ma K (He.ga K "Family") "spread")
  d_is_integer : ∃ fd, FnP K "is_integer" "is_integer" st_is_integer (He.fAd K dd_is_integer.at_) fd
  d_is_within : ∃ fd, FnP K "is_within" "is_within" st_is_within (He.fAd K dd_is_within.at_) fd
  d_is_listed : ∃ fd, FnP K "is_listed" "is_listed" st_is_listed (He.fAd K dd_is_listed.at_) fd
  d_is_triple : ∃ fd, FnP K "is_triple" "is_triple" st_is_triple (He.fAd K dd_is_triple.at_) fd
  d_is_flag : ∃ fd, FnP K "is_flag" "is_flag" st_is_flag (He.fAd K dd_is_flag.at_) fd
  d_is_row : ∃ fd, FnP K "is_row" "is_row" st_is_row (He.fAd K dd_is_row.at_) fd
  d_first_bad : ∃ fd, FnP K "first_bad" "first_bad" st_first_bad (He.fAd K dd_first_bad.at_) fd
  d_Log_init : ∃ fd, FnP K "__init__" "Log.__init__" st_Log_init (He.fAd K dd_Log_init.at_) fd
  d_raw_log : ∃ fd, FnP K "raw_log" "raw_log" st_raw_log (He.fAd K dd_raw_log.at_) fd
  d_is_left : ∃ fd, FnP K "is_left" "is_left" st_is_left (He.fAd K dd_is_left.at_) fd
  d_cut_of : ∃ fd, FnP K "cut_of" "cut_of" st_cut_of (He.fAd K dd_cut_of.at_) fd
  d_turned_row : ∃ fd, FnP K "turned_row" "turned_row" st_turned_row (He.fAd K dd_turned_row.at_) fd
  d_mirrored : ∃ fd, FnP K "mirrored" "mirrored" st_mirrored (He.fAd K dd_mirrored.at_) fd
  d_is_find : ∃ fd, FnP K "is_find" "is_find" st_is_find (He.fAd K dd_is_find.at_) fd
  d_check_finds : ∃ fd, FnP K "check_finds" "check_finds" st_check_finds (He.fAd K dd_check_finds.at_) fd
  d_step_of : ∃ fd, FnP K "step_of" "step_of" st_step_of (He.fAd K dd_step_of.at_) fd
  d_steps_of : ∃ fd, FnP K "steps_of" "steps_of" st_steps_of (He.fAd K dd_steps_of.at_) fd
  d_cut_on : ∃ fd, FnP K "cut_on" "cut_on" st_cut_on (He.fAd K dd_cut_on.at_) fd
  d_cut_back : ∃ fd, FnP K "cut_back" "cut_back" st_cut_back (He.fAd K dd_cut_back.at_) fd
  d_latest_shown : ∃ fd, FnP K "latest_shown" "latest_shown" st_latest_shown (He.fAd K dd_latest_shown.at_) fd
  d_first_bounds : ∃ fd, FnP K "first_bounds" "first_bounds" st_first_bounds (He.fAd K dd_first_bounds.at_) fd
  d_is_denied : ∃ fd, FnP K "is_denied" "is_denied" st_is_denied (He.fAd K dd_is_denied.at_) fd
  d_bounds_from : ∃ fd, FnP K "bounds_from" "bounds_from" st_bounds_from (He.fAd K dd_bounds_from.at_) fd
  d_Family_init : ∃ fd, FnP K "__init__" "Family.__init__" st_Family_init (He.fAd K dd_Family_init.at_) fd
  d_Family_put : ∃ fd, FnP K "put" "Family.put" st_Family_put (He.fAd K dd_Family_put.at_) fd
  d_Family_spread : ∃ fd, FnP K "spread" "Family.spread" st_Family_spread (He.fAd K dd_Family_spread.at_) fd
  d_family_of : ∃ fd, FnP K "family_of" "family_of" st_family_of (He.fAd K dd_family_of.at_) fd
  d_fits : ∃ fd, FnP K "fits" "fits" st_fits (He.fAd K dd_fits.at_) fd
  d_fit : ∃ fd, FnP K "fit" "fit" st_fit (He.fAd K dd_fit.at_) fd
  d_low_cuts : ∃ fd, FnP K "low_cuts" "low_cuts" st_low_cuts (He.fAd K dd_low_cuts.at_) fd
  d_least_cuts : ∃ fd, FnP K "least_cuts" "least_cuts" st_least_cuts (He.fAd K dd_least_cuts.at_) fd
  d_turned_finds : ∃ fd, FnP K "turned_finds" "turned_finds" st_turned_finds (He.fAd K dd_turned_finds.at_) fd
  d_high_cuts : ∃ fd, FnP K "high_cuts" "high_cuts" st_high_cuts (He.fAd K dd_high_cuts.at_) fd
  d_greatest_cuts : ∃ fd, FnP K "greatest_cuts" "greatest_cuts" st_greatest_cuts (He.fAd K dd_greatest_cuts.at_) fd
  d_mirrored_finds : ∃ fd, FnP K "mirrored_finds" "mirrored_finds" st_mirrored_finds (He.fAd K dd_mirrored_finds.at_) fd
  d__law_hand : ∃ fd, FnP K "_law_hand" "_law_hand" st__law_hand (He.fAd K dd__law_hand.at_) fd
  d__law_draw : ∃ fd, FnP K "_law_draw" "_law_draw" st__law_draw (He.fAd K dd__law_draw.at_) fd
  d__law_row : ∃ fd, FnP K "_law_row" "_law_row" st__law_row (He.fAd K dd__law_row.at_) fd
  d__law_rows : ∃ fd, FnP K "_law_rows" "_law_rows" st__law_rows (He.fAd K dd__law_rows.at_) fd
  d__law_led : ∃ fd, FnP K "_law_led" "_law_led" st__law_led (He.fAd K dd__law_led.at_) fd
  d__law_doings : ∃ fd, FnP K "_law_doings" "_law_doings" st__law_doings (He.fAd K dd__law_doings.at_) fd
  d__law_some_doing : ∃ fd, FnP K "_law_some_doing" "_law_some_doing" st__law_some_doing (He.fAd K dd__law_some_doing.at_) fd
  d__law_finds : ∃ fd, FnP K "_law_finds" "_law_finds" st__law_finds (He.fAd K dd__law_finds.at_) fd
  d__law_are_true : ∃ fd, FnP K "_law_are_true" "_law_are_true" st__law_are_true (He.fAd K dd__law_are_true.at_) fd
  d__law_good : ∃ fd, FnP K "_law_good" "_law_good" st__law_good (He.fAd K dd__law_good.at_) fd
  d__law_is : ∃ fd, FnP K "_law_is" "_law_is" st__law_is (He.fAd K dd__law_is.at_) fd
  d__law_cuts : ∃ fd, FnP K "_law_cuts" "_law_cuts" st__law_cuts (He.fAd K dd__law_cuts.at_) fd
  d__law_turned_cuts : ∃ fd, FnP K "_law_turned_cuts" "_law_turned_cuts" st__law_turned_cuts (He.fAd K dd__law_turned_cuts.at_) fd
  d_law : ∃ fd, FnP K "law" "law" st_law (He.fAd K dd_law.at_) fd
theorem txt_of {K : PySem.W.Frag} {h : Heap} {mg : Str → Option Value} (X : K.In h) (G : h.Ns mainGlobals mg) (c : He.SaysD fa fn K) : Txt K mg where
  g_is_integer := He.glo_ok X G (c.fact 0 (f := .glo "is_integer") rfl)
  g_is_within := He.glo_ok X G (c.fact 1 (f := .glo "is_within") rfl)
  g_is_listed := He.glo_ok X G (c.fact 2 (f := .glo "is_listed") rfl)
  g_is_triple := He.glo_ok X G (c.fact 3 (f := .glo "is_triple") rfl)
  g_is_flag := He.glo_ok X G (c.fact 4 (f := .glo "is_flag") rfl)
  g_is_row := He.glo_ok X G (c.fact 5 (f := .glo "is_row") rfl)
  g_first_bad := He.glo_ok X G (c.fact 6 (f := .glo "first_bad") rfl)
  g_raw_log := He.glo_ok X G (c.fact 7 (f := .glo "raw_log") rfl)
  g_is_left := He.glo_ok X G (c.fact 8 (f := .glo "is_left") rfl)
  g_cut_of := He.glo_ok X G (c.fact 9 (f := .glo "cut_of") rfl)
  g_turned_row := He.glo_ok X G (c.fact 10 (f := .glo "turned_row") rfl)
  g_mirrored := He.glo_ok X G (c.fact 11 (f := .glo "mirrored") rfl)
  g_is_find := He.glo_ok X G (c.fact 12 (f := .glo "is_find") rfl)
  g_check_finds := He.glo_ok X G (c.fact 13 (f := .glo "check_finds") rfl)
  g_step_of := He.glo_ok X G (c.fact 14 (f := .glo "step_of") rfl)
  g_steps_of := He.glo_ok X G (c.fact 15 (f := .glo "steps_of") rfl)
  g_cut_on := He.glo_ok X G (c.fact 16 (f := .glo "cut_on") rfl)
  g_cut_back := He.glo_ok X G (c.fact 17 (f := .glo "cut_back") rfl)
  g_latest_shown := He.glo_ok X G (c.fact 18 (f := .glo "latest_shown") rfl)
  g_first_bounds := He.glo_ok X G (c.fact 19 (f := .glo "first_bounds") rfl)
  g_is_denied := He.glo_ok X G (c.fact 20 (f := .glo "is_denied") rfl)
  g_bounds_from := He.glo_ok X G (c.fact 21 (f := .glo "bounds_from") rfl)
  g_family_of := He.glo_ok X G (c.fact 22 (f := .glo "family_of") rfl)
  g_fits := He.glo_ok X G (c.fact 23 (f := .glo "fits") rfl)
  g_fit := He.glo_ok X G (c.fact 24 (f := .glo "fit") rfl)
  g_low_cuts := He.glo_ok X G (c.fact 25 (f := .glo "low_cuts") rfl)
  g_least_cuts := He.glo_ok X G (c.fact 26 (f := .glo "least_cuts") rfl)
  g_turned_finds := He.glo_ok X G (c.fact 27 (f := .glo "turned_finds") rfl)
  g_high_cuts := He.glo_ok X G (c.fact 28 (f := .glo "high_cuts") rfl)
  g_greatest_cuts := He.glo_ok X G (c.fact 29 (f := .glo "greatest_cuts") rfl)
  g_mirrored_finds := He.glo_ok X G (c.fact 30 (f := .glo "mirrored_finds") rfl)
  g__law_hand := He.glo_ok X G (c.fact 31 (f := .glo "_law_hand") rfl)
  g__law_draw := He.glo_ok X G (c.fact 32 (f := .glo "_law_draw") rfl)
  g__law_row := He.glo_ok X G (c.fact 33 (f := .glo "_law_row") rfl)
  g__law_rows := He.glo_ok X G (c.fact 34 (f := .glo "_law_rows") rfl)
  g__law_led := He.glo_ok X G (c.fact 35 (f := .glo "_law_led") rfl)
  g__law_doings := He.glo_ok X G (c.fact 36 (f := .glo "_law_doings") rfl)
  g__law_some_doing := He.glo_ok X G (c.fact 37 (f := .glo "_law_some_doing") rfl)
  g__law_finds := He.glo_ok X G (c.fact 38 (f := .glo "_law_finds") rfl)
  g__law_are_true := He.glo_ok X G (c.fact 39 (f := .glo "_law_are_true") rfl)
  g__law_good := He.glo_ok X G (c.fact 40 (f := .glo "_law_good") rfl)
  g__law_is := He.glo_ok X G (c.fact 41 (f := .glo "_law_is") rfl)
  g__law_cuts := He.glo_ok X G (c.fact 42 (f := .glo "_law_cuts") rfl)
  g__law_turned_cuts := He.glo_ok X G (c.fact 43 (f := .glo "_law_turned_cuts") rfl)
  g_law := He.glo_ok X G (c.fact 44 (f := .glo "law") rfl)
  g_Log := He.glo_ok X G (c.fact 45 (f := .glo "Log") rfl)
  g_Family := He.glo_ok X G (c.fact 46 (f := .glo "Family") rfl)
  f_isinstance := He.free_ok X G (c.fact 47 (f := .free "isinstance") rfl)
  f_int := He.free_ok X G (c.fact 48 (f := .free "int") rfl)
  f_bool := He.free_ok X G (c.fact 49 (f := .free "bool") rfl)
  f_list := He.free_ok X G (c.fact 50 (f := .free "list") rfl)
  f_tuple := He.free_ok X G (c.fact 51 (f := .free "tuple") rfl)
  f_len := He.free_ok X G (c.fact 52 (f := .free "len") rfl)
  f_all := He.free_ok X G (c.fact 53 (f := .free "all") rfl)
  f_any := He.free_ok X G (c.fact 54 (f := .free "any") rfl)
  f_max := He.free_ok X G (c.fact 55 (f := .free "max") rfl)
  f_abs := He.free_ok X G (c.fact 56 (f := .free "abs") rfl)
  f_enumerate := He.free_ok X G (c.fact 57 (f := .free "enumerate") rfl)
  f_range := He.free_ok X G (c.fact 58 (f := .free "range") rfl)
  f_zip := He.free_ok X G (c.fact 59 (f := .free "zip") rfl)
  i_MOST_OFFICES := He.int_ok X G (c.fact 60 (f := .int "MOST_OFFICES" 12) rfl)
  i_MOST_ROWS := He.int_ok X G (c.fact 61 (f := .int "MOST_ROWS" 60) rfl)
  i_MOST_FINDS := He.int_ok X G (c.fact 62 (f := .int "MOST_FINDS" 40) rfl)
  s_ON_LEFT := He.str_ok X G (c.fact 63 (f := .str "ON_LEFT" "left") rfl)
  s_ON_RIGHT := He.str_ok X G (c.fact 64 (f := .str "ON_RIGHT" "right") rfl)
  c_Log := He.cls_ok (c.fact 65 (f := .cls "Log") rfl)
  k_Log := He.mkr_ok (c.fact 66 (f := .mkr "Log") rfl)
  n_Log_offices := He.noat_ok (c.fact 67 (f := .noat "Log" "offices") rfl)
  n_Log_rows := He.noat_ok (c.fact 68 (f := .noat "Log" "rows") rfl)
  c_Family := He.cls_ok (c.fact 69 (f := .cls "Family") rfl)
  k_Family := He.mkr_ok (c.fact 70 (f := .mkr "Family") rfl)
  n_Family_offices := He.noat_ok (c.fact 71 (f := .noat "Family" "offices") rfl)
  n_Family_steps := He.noat_ok (c.fact 72 (f := .noat "Family" "steps") rfl)
  n_Family_finds := He.noat_ok (c.fact 73 (f := .noat "Family" "finds") rfl)
  n_Family_latest := He.noat_ok (c.fact 74 (f := .noat "Family" "latest") rfl)
  n_Family_cuts := He.noat_ok (c.fact 75 (f := .noat "Family" "cuts") rfl)
  n_Family_came := He.noat_ok (c.fact 76 (f := .noat "Family" "came") rfl)
  n_Family_denied := He.noat_ok (c.fact 77 (f := .noat "Family" "denied") rfl)
  n_Family_waiting := He.noat_ok (c.fact 78 (f := .noat "Family" "waiting") rfl)
  m_put := He.meth_ok (c.fact 79 (f := .meth "Family" "put") rfl)
  m_spread := He.meth_ok (c.fact 80 (f := .meth "Family" "spread") rfl)
  d_is_integer := c.def_ 0 (d := dd_is_integer) rfl
  d_is_within := c.def_ 1 (d := dd_is_within) rfl
  d_is_listed := c.def_ 2 (d := dd_is_listed) rfl
  d_is_triple := c.def_ 3 (d := dd_is_triple) rfl
  d_is_flag := c.def_ 4 (d := dd_is_flag) rfl
  d_is_row := c.def_ 5 (d := dd_is_row) rfl
  d_first_bad := c.def_ 6 (d := dd_first_bad) rfl
  d_Log_init := c.def_ 7 (d := dd_Log_init) rfl
  d_raw_log := c.def_ 8 (d := dd_raw_log) rfl
  d_is_left := c.def_ 9 (d := dd_is_left) rfl
  d_cut_of := c.def_ 10 (d := dd_cut_of) rfl
  d_turned_row := c.def_ 11 (d := dd_turned_row) rfl
  d_mirrored := c.def_ 12 (d := dd_mirrored) rfl
  d_is_find := c.def_ 13 (d := dd_is_find) rfl
  d_check_finds := c.def_ 14 (d := dd_check_finds) rfl
  d_step_of := c.def_ 15 (d := dd_step_of) rfl
  d_steps_of := c.def_ 16 (d := dd_steps_of) rfl
  d_cut_on := c.def_ 17 (d := dd_cut_on) rfl
  d_cut_back := c.def_ 18 (d := dd_cut_back) rfl
  d_latest_shown := c.def_ 19 (d := dd_latest_shown) rfl
  d_first_bounds := c.def_ 20 (d := dd_first_bounds) rfl
  d_is_denied := c.def_ 21 (d := dd_is_denied) rfl
  d_bounds_from := c.def_ 22 (d := dd_bounds_from) rfl
  d_Family_init := c.def_ 23 (d := dd_Family_init) rfl
  d_Family_put := c.def_ 24 (d := dd_Family_put) rfl
  d_Family_spread := c.def_ 25 (d := dd_Family_spread) rfl
  d_family_of := c.def_ 26 (d := dd_family_of) rfl
  d_fits := c.def_ 27 (d := dd_fits) rfl
  d_fit := c.def_ 28 (d := dd_fit) rfl
  d_low_cuts := c.def_ 29 (d := dd_low_cuts) rfl
  d_least_cuts := c.def_ 30 (d := dd_least_cuts) rfl
  d_turned_finds := c.def_ 31 (d := dd_turned_finds) rfl
  d_high_cuts := c.def_ 32 (d := dd_high_cuts) rfl
  d_greatest_cuts := c.def_ 33 (d := dd_greatest_cuts) rfl
  d_mirrored_finds := c.def_ 34 (d := dd_mirrored_finds) rfl
  d__law_hand := c.def_ 35 (d := dd__law_hand) rfl
  d__law_draw := c.def_ 36 (d := dd__law_draw) rfl
  d__law_row := c.def_ 37 (d := dd__law_row) rfl
  d__law_rows := c.def_ 38 (d := dd__law_rows) rfl
  d__law_led := c.def_ 39 (d := dd__law_led) rfl
  d__law_doings := c.def_ 40 (d := dd__law_doings) rfl
  d__law_some_doing := c.def_ 41 (d := dd__law_some_doing) rfl
  d__law_finds := c.def_ 42 (d := dd__law_finds) rfl
  d__law_are_true := c.def_ 43 (d := dd__law_are_true) rfl
  d__law_good := c.def_ 44 (d := dd__law_good) rfl
  d__law_is := c.def_ 45 (d := dd__law_is) rfl
  d__law_cuts := c.def_ 46 (d := dd__law_cuts) rfl
  d__law_turned_cuts := c.def_ 47 (d := dd__law_turned_cuts) rfl
  d_law := c.def_ 48 (d := dd_law) rfl
end K41
set_option maxHeartbeats 4000000
namespace K41
open PySem PySem.Spec PyProof.Rows L2
/-! K41Base: data in the heap, heaps that grow, calls of own defs. -/
/-! ### data, its lists among L -/
mutual
inductive Dt (L : Addr → Prop) (H : Hp) : V → PyData → Prop
  | non : Dt L H .non .none
  | bl (b : Bool) : Dt L H (.bl b) (.bool b)
  | int (i : Int) : Dt L H (.int i) (.int i)
  | str (x : Str) : Dt L H (.str x) (.str x)
  | lst {a : Addr} {xs : List V} {ds : List PyData} : L a → H a = some (.lst xs) → DtL L H xs ds → Dt L H (.ref a) (.list ds)
  | tup {a : Addr} {xs : List V} {ds : List PyData} : H a = some (.tup xs) → DtL L H xs ds → Dt L H (.ref a) (.tuple ds)
inductive DtL (L : Addr → Prop) (H : Hp) : List V → List PyData → Prop
  | nil : DtL L H [] []
  | cons {v : V} {vs : List V} {d : PyData} {ds : List PyData} : Dt L H v d → DtL L H vs ds → DtL L H (v :: vs) (d :: ds)
end
/-- no lists in it -/
abbrev Im (H : Hp) (v : V) (d : PyData) : Prop := Dt (fun _ => False) H v d
abbrev ImL (H : Hp) (vs : List V) (ds : List PyData) : Prop := DtL (fun _ => False) H vs ds
/-- what was not there -/
abbrev New (H : Hp) (a : Addr) : Prop := H a = none
abbrev AnyL (_ : Addr) : Prop := True
section
variable {L L' : Addr → Prop} {H H' : Hp}
mutual
theorem Dt.to (hL : ∀ a, L a → L' a) (ht : ∀ a xs, H a = some (.tup xs) → H' a = some (.tup xs)) (hl : ∀ a xs, L a → H a = some (.lst xs) → H' a = some (.lst xs)) : ∀ (d : PyData) (v : V), Dt L H v d → Dt L' H' v d
  | .none, _, .non => .non
  | .bool b, _, .bl _ => .bl b
  | .int i, _, .int _ => .int i
  | .str x, _, .str _ => .str x
  | .list ds, _, .lst a h t => .lst (hL _ a) (hl _ _ a h) (DtL.to hL ht hl ds _ t)
  | .tuple ds, _, .tup h t => .tup (ht _ _ h) (DtL.to hL ht hl ds _ t)
  | .dict _, _, h => nomatch h
theorem DtL.to (hL : ∀ a, L a → L' a) (ht : ∀ a xs, H a = some (.tup xs) → H' a = some (.tup xs)) (hl : ∀ a xs, L a → H a = some (.lst xs) → H' a = some (.lst xs)) : ∀ (ds : List PyData) (vs : List V), DtL L H vs ds → DtL L' H' vs ds
  | [], _, .nil => .nil
  | d :: ds, _, .cons h t => .cons (Dt.to hL ht hl d _ h) (DtL.to hL ht hl ds _ t)
end
theorem Dt.same (s : Same H H') {v : V} {d : PyData} (h : Dt L H v d) : Dt L H' v d := Dt.to (fun _ z => z) (fun a xs e => s _ _ e) (fun a xs _ e => s _ _ e) d v h
theorem DtL.same (s : Same H H') {v : List V} {d : List PyData} (h : DtL L H v d) : DtL L H' v d := DtL.to (fun _ z => z) (fun a xs e => s _ _ e) (fun a xs _ e => s _ _ e) d v h
theorem Dt.any {v : V} {d : PyData} (h : Dt L H v d) : Dt AnyL H v d := Dt.to (fun _ _ => trivial) (fun _ _ e => e) (fun _ _ _ e => e) d v h
theorem DtL.any {v : List V} {d : List PyData} (h : DtL L H v d) : DtL AnyL H v d := DtL.to (fun _ _ => trivial) (fun _ _ e => e) (fun _ _ _ e => e) d v h
theorem Dt.im {v : V} {d : PyData} (h : Im H v d) : Dt L H v d := Dt.to (fun _ z => z.elim) (fun _ _ e => e) (fun _ _ _ e => e) d v h
theorem DtL.im {v : List V} {d : List PyData} (h : ImL H v d) : DtL L H v d := DtL.to (fun _ z => z.elim) (fun _ _ e => e) (fun _ _ _ e => e) d v h
theorem Dt.weak {v : V} {d : PyData} (hL : ∀ a, L a → L' a) (h : Dt L H v d) : Dt L' H v d := Dt.to hL (fun _ _ e => e) (fun _ _ _ e => e) d v h
theorem DtL.weak {v : List V} {d : List PyData} (hL : ∀ a, L a → L' a) (h : DtL L H v d) : DtL L' H v d := DtL.to hL (fun _ _ e => e) (fun _ _ _ e => e) d v h
/-- tuples alone must stand -/
theorem Dt.tups (ht : ∀ a xs, H a = some (.tup xs) → H' a = some (.tup xs)) {v : V} {d : PyData} (h : Im H v d) : Im H' v d := Dt.to (fun _ z => z) ht (fun _ _ z _ => z.elim) d v h
theorem DtL.tups (ht : ∀ a xs, H a = some (.tup xs) → H' a = some (.tup xs)) {v : List V} {d : List PyData} (h : ImL H v d) : ImL H' v d := DtL.to (fun _ z => z) ht (fun _ _ z _ => z.elim) d v h
theorem Dt.tupE {v : V} {ds : List PyData} (h : Dt L H v (.tuple ds)) : ∃ a xs, v = .ref a ∧ H a = some (.tup xs) ∧ DtL L H xs ds := by
  cases h with
  | tup h t => exact ⟨_, _, rfl, h, t⟩
theorem Dt.lstE {v : V} {ds : List PyData} (h : Dt L H v (.list ds)) : ∃ a xs, v = .ref a ∧ L a ∧ H a = some (.lst xs) ∧ DtL L H xs ds := by
  cases h with
  | lst l h t => exact ⟨_, _, rfl, l, h, t⟩
theorem Dt.intE {v : V} {i : Int} (h : Dt L H v (.int i)) : v = .int i := by
  cases h
  rfl
theorem Dt.blE {v : V} {i : Bool} (h : Dt L H v (.bool i)) : v = .bl i := by
  cases h
  rfl
theorem Dt.strE {v : V} {i : Str} (h : Dt L H v (.str i)) : v = .str i := by
  cases h
  rfl
theorem Dt.nonE {v : V} (h : Dt L H v .none) : v = .non := by
  cases h
  rfl
theorem DtL.len : ∀ {vs : List V} {ds : List PyData}, DtL L H vs ds → vs.length = ds.length
  | _, _, .nil => rfl
  | _, _, .cons _ t => congrArg (· + 1) (DtL.len t)
theorem DtL.get : ∀ {vs : List V} {ds : List PyData} {i : Nat} {d : PyData}, DtL L H vs ds → ds[i]? = some d → ∃ v, vs[i]? = some v ∧ Dt L H v d
  | _, _, _, _, .nil, e => by simp at e
  | _, _, 0, _, .cons h _, e => by
    cases Option.some.inj e
    exact ⟨_, rfl, h⟩
  | _, _, i + 1, _, .cons _ t, e => DtL.get (i := i) t e
theorem DtL.getV : ∀ {vs : List V} {ds : List PyData} {i : Nat} {v : V}, DtL L H vs ds → vs[i]? = some v → ∃ d, ds[i]? = some d ∧ Dt L H v d
  | _, _, _, _, .nil, e => by simp at e
  | _, _, 0, _, .cons h _, e => by
    cases Option.some.inj e
    exact ⟨_, rfl, h⟩
  | _, _, i + 1, _, .cons _ t, e => DtL.getV (i := i) t e
theorem DtL.append : ∀ {vs ws : List V} {ds es : List PyData}, DtL L H vs ds → DtL L H ws es → DtL L H (vs ++ ws) (ds ++ es)
  | _, _, _, _, .nil, t => t
  | _, _, _, _, .cons h s, t => .cons h (DtL.append s t)
theorem DtL.reverse : ∀ {vs : List V} {ds : List PyData}, DtL L H vs ds → DtL L H vs.reverse ds.reverse
  | _, _, .nil => .nil
  | _, _, .cons h t => by
    rw [List.reverse_cons, List.reverse_cons]
    exact (DtL.reverse t).append (.cons h .nil)
theorem DtL.ints : ∀ {vs : List V} {ns : List Int}, DtL L H vs (ns.map PyData.int) → vs = ns.map V.int
  | _, [], .nil => rfl
  | _, n :: ns, .cons h t => by
    rw [Dt.intE h, DtL.ints t]
    rfl
theorem DtL.ofInts : ∀ (ns : List Int), DtL L H (ns.map V.int) (ns.map PyData.int)
  | [] => .nil
  | n :: ns => .cons (.int n) (DtL.ofInts ns)
theorem DtL.bls : ∀ {vs : List V} {ns : List Bool}, DtL L H vs (ns.map PyData.bool) → vs = ns.map V.bl
  | _, [], .nil => rfl
  | _, n :: ns, .cons h t => by
    rw [Dt.blE h, DtL.bls t]
    rfl
theorem DtL.ofBls : ∀ (ns : List Bool), DtL L H (ns.map V.bl) (ns.map PyData.bool)
  | [] => .nil
  | n :: ns => .cons (.bl n) (DtL.ofBls ns)
mutual
theorem Dt.dp {K : PySem.W.Frag} : ∀ (d : PyData) (v : V), Dt L H v d → Dp K H v d
  | .none, _, .non => .non
  | .bool b, _, .bl _ => .bl b
  | .int i, _, .int _ => .int i
  | .str x, _, .str _ => .str x
  | .list ds, _, .lst _ h t => .lst (SqL.of h) (DtL.dp ds _ t)
  | .tuple ds, _, .tup h t => .tup (SqT.of h) (DtL.dp ds _ t)
  | .dict _, _, h => nomatch h
theorem DtL.dp {K : PySem.W.Frag} : ∀ (ds : List PyData) (vs : List V), DtL L H vs ds → DpAll K H vs ds
  | [], _, .nil => .nil
  | d :: ds, _, .cons h t => .cons (Dt.dp d _ h) (DtL.dp ds _ t)
end
end
/-! ### data without lists -/
mutual
def noL : PyData → Bool
  | .none => true
  | .bool _ => true
  | .int _ => true
  | .str _ => true
  | .list _ => false
  | .tuple ds => noLA ds
  | .dict _ => false
def noLA : List PyData → Bool
  | [] => true
  | d :: ds => noL d && noLA ds
end
theorem noLA_map {α : Type} {f : α → PyData} (h : ∀ x, noL (f x) = true) : ∀ l : List α, noLA (l.map f) = true
  | [] => rfl
  | x :: l => by
    show (noL (f x) && noLA (l.map f)) = true
    rw [h x, noLA_map h l]
    rfl
section
variable {L L' : Addr → Prop} {H : Hp}
mutual
theorem Dt.ofNoL : ∀ (d : PyData) (v : V), noL d = true → Dt L H v d → Dt L' H v d
  | .none, _, _, .non => .non
  | .bool b, _, _, .bl _ => .bl b
  | .int i, _, _, .int _ => .int i
  | .str x, _, _, .str _ => .str x
  | .list ds, _, h, _ => nomatch h
  | .tuple ds, _, h, .tup e t => .tup e (DtL.ofNoL ds _ h t)
  | .dict _, _, h, _ => nomatch h
theorem DtL.ofNoL : ∀ (ds : List PyData) (vs : List V), noLA ds = true → DtL L H vs ds → DtL L' H vs ds
  | [], _, _, .nil => .nil
  | d :: ds, _, h, .cons e t => by
    have h' : (noL d && noLA ds) = true := h
    rw [Bool.and_eq_true] at h'
    exact .cons (Dt.ofNoL d _ h'.1 e) (DtL.ofNoL ds _ h'.2 t)
end
theorem Dt.free {v : V} {d : PyData} (n : noL d = true) (h : Dt L H v d) : Dt L' H v d := Dt.ofNoL d v n h
theorem DtL.free {v : List V} {d : List PyData} (n : noLA d = true) (h : DtL L H v d) : DtL L' H v d := DtL.ofNoL d v n h
end
theorem map_get {α β : Type} {f : α → β} {l : List α} {i : Nat} {d : β} (h : (l.map f)[i]? = some d) : ∃ r, l[i]? = some r ∧ d = f r := by
  rw [List.getElem?_map] at h
  cases e : l[i]? with
  | none =>
    rw [e] at h
    cases h
  | some r =>
    rw [e] at h
    exact ⟨r, rfl, (Option.some.inj h).symm⟩
/-! ### heaps that grow -/
theorem same_upd {H : Hp} {p : Addr} {o : HO} (h : H p = none) : Same H (upd H p o) := fun b x e => by
  rw [upd_ne (ne_of_none e h)]
  exact e
/-- grown from H, and the object at a local place changed -/
theorem same_set {H H' : Hp} {p : Addr} {o : HO} (s : Same H H') (h : H p = none) : Same H (upd H' p o) := fun b x e => by
  rw [upd_ne (ne_of_none e h)]
  exact s b x e
/-- all but p stands -/
def But (p : Addr) (H H' : Hp) : Prop := ∀ b o, b ≠ p → H b = some o → H' b = some o
theorem But.refl (p : Addr) (H : Hp) : But p H H := fun _ _ _ e => e
theorem But.trans {p : Addr} {H H1 H2 : Hp} (a : But p H H1) (b : But p H1 H2) : But p H H2 := fun c o n e => b c o n (a c o n e)
theorem But.of {p : Addr} {H H' : Hp} (s : Same H H') : But p H H' := fun b o _ e => s b o e
theorem But.set {p : Addr} {H : Hp} {o : HO} : But p H (upd H p o) := fun b x n e => by
  rw [upd_ne n]
  exact e
theorem But.same {p : Addr} {H H' : Hp} (b : But p H H') {G : Hp} (s : Same G H) (h : G p = none) : Same G H' := fun c o e => b c o (ne_of_none e h) (s c o e)
theorem sizeOk {n : Nat} (h : n ≤ 1000000) : n ≤ sizeLine := Nat.le_trans h (by decide)
theorem sizeLt {n : Nat} (h : n ≤ 1000000) : n < sizeLine := Nat.lt_of_le_of_lt h (by decide)
/-! ### calls of own defs -/
section
variable {P : Program} {w : World} {K : PySem.W.Frag} {mg : Str → Option Value} {base : Heap}
/-- a def of the module keeps its promise -/
def Has (P : Program) (w : World) (K : PySem.W.Frag) (mg : Str → Option Value) (base : Heap) (k : Nat) (x : Str) (ps : List Str) (sp : Sp) : Prop :=
  ∃ f fd, FnOk P w K mg base CX0 k f fd ps sp ∧ mg x = some (.ref f) ∧ PySem.W.keepIn K (.ref f) = true ∧ Binds K fd ps []
/-- a method -/
def HasM (P : Program) (w : World) (K : PySem.W.Frag) (mg : Str → Option Value) (base : Heap) (k : Nat) (C : Addr) (m : Str) (ps : List Str) (sp : Sp) : Prop :=
  ∃ f fd, FnOk P w K mg base CX0 k f fd ps sp ∧ Meth K C m f ∧ Binds K fd ps []
/-- a class's making -/
def HasI (P : Program) (w : World) (K : PySem.W.Frag) (mg : Str → Option Value) (base : Heap) (k : Nat) (x : Str) (C : Addr) (ps : List Str) (sp : Sp) : Prop :=
  ∃ f fd, FnOk P w K mg base CX0 k f fd ps sp ∧ Mk K C f ∧ mg x = some (.ref C) ∧ Binds K fd ps []
variable {X : Cx} {k j : Nat} {x m : Str} {C : Addr} {ps : List Str} {sp : Sp}
theorem Has.mono (h : Has P w K mg base k x ps sp) (l : k ≤ j) : Has P w K mg base j x ps sp := by
  obtain ⟨f, fd, F, r⟩ := h
  exact ⟨f, fd, F.mono l, r⟩
theorem pe_own {p pos : Pos} {e : Expr} {es : List Expr} {t : TA} (D : Has X.prog X.w X.K X.mg X.base k x ps sp) (hr : Room k X.A) (ha : PA X (e :: es) t) (hg : Gl X x := by rfl) (hdb : (x == ("__debug__" : Str)) = false := by decide)
    (he : starEach (e :: es) X.env = (false, eval e X.env) :: starEach es X.env := by rfl) (hpl : (backTo pos (starEach es X.env)).any (·.1) = false := by rfl) : PE X (.Call (.Name x p) (e :: es) [] pos) (tCall sp [] E0 t) := by
  obtain ⟨f, fd, F, hm, hk, hb⟩ := D
  exact pe_call F hr hg hm hk hb .nil pass0 ha hdb he hpl
theorem pe_ownM {o : Expr} {ta : TE} {apos pos : Pos} {e : Expr} {es : List Expr} {t : TA} (c : Cls X.K C) (D : HasM X.prog X.w X.K X.mg X.base k C m ps sp) (hr : Room k X.A) (ho : PE X o ta) (ha : PA X (e :: es) t) {pl : Sem Bool}
    (hst : starEach (e :: es) X.env = (false, eval e X.env) :: starEach es X.env := by rfl) (hpl : (backTo pos (starEach es X.env)).any (·.1) = false := by rfl)
    (ht : eval (.Call (.Attribute o m apos) (e :: es) [] pos) X.env = (do
      let ov ← eval o X.env
      standAt apos.atName
      let (f, first) ← holding [ov] (getMethod ov m pl)
      callWith pos f first (backTo pos (starEach (e :: es) X.env)) (backToKw pos (keywordEach [] X.env))) := by rfl) :
    PE X (.Call (.Attribute o m apos) (e :: es) [] pos) (tMeth C m sp [] E0 ta t) := by
  obtain ⟨f, fd, F, hm, hb⟩ := D
  exact pe_meth ho c hm F hr hb .nil pass0 ha hst hpl ht
theorem pe_ownM0 {o : Expr} {ta : TE} {apos pos : Pos} (c : Cls X.K C) (D : HasM X.prog X.w X.K X.mg X.base k C m ps sp) (hr : Room k X.A) (ho : PE X o ta) {pl : Sem Bool}
    (ht : eval (.Call (.Attribute o m apos) [] [] pos) X.env = (do
      let ov ← eval o X.env
      standAt apos.atName
      let (f, first) ← holding [ov] (getMethod ov m pl)
      callWith pos f first (backTo pos (starEach [] X.env)) (backToKw pos (keywordEach [] X.env))) := by rfl) :
    PE X (.Call (.Attribute o m apos) [] [] pos) (tMeth C m sp [] E0 ta tNil) := by
  obtain ⟨f, fd, F, hm, hb⟩ := D
  exact pe_meth0 ho c hm F hr hb .nil pass0 ht
theorem pe_ownI {p pos : Pos} {e : Expr} {es : List Expr} {t : TA} (D : HasI X.prog X.w X.K X.mg X.base k x C ps sp) (hr : Room (k + 1) X.A) (ha : PA X (e :: es) t) (hg : Gl X x := by rfl) (hdb : (x == ("__debug__" : Str)) = false := by decide)
    (he : starEach (e :: es) X.env = (false, eval e X.env) :: starEach es X.env := by rfl) (hpl : (backTo pos (starEach es X.env)).any (·.1) = false := by rfl) : PE X (.Call (.Name x p) (e :: es) [] pos) (tMake C sp [] E0 t) := by
  obtain ⟨f, fd, F, M, hm, hb⟩ := D
  exact pe_make M F hr hg hm hb .nil pass0 ha hdb he hpl
/-- a target that is a name -/
theorem pgn {i : Nat} {x : Str} {pos : Pos} (hN : X.N.Nodup) (hi : X.N[i]? = some x := by rfl) (hx : Loc X.env.scope x := by first | exact Or.inl rfl | exact Or.inr rfl)
    (hf : X.fn x = true ∨ X.env.scope.names.lookup x = some .local := by first | exact .inl rfl | exact .inr rfl) : PG X (.Name x pos) (gName i) := pg_name hN hi hx hf
theorem ps_v {i : Nat} {x : Str} {e : Expr} {te : TE} {pos' pos : Pos} (hN : X.N.Nodup) (he : PE X e te) (hi : X.N[i]? = some x := by rfl) (hx : Loc X.env.scope x := by first | exact Or.inl rfl | exact Or.inr rfl) (hs : swapsWith e (some (.Name x pos')) pos.line X.env = pure false := by rfl)
    (hf : X.fn x = true ∨ X.env.scope.names.lookup x = some .local := by first | exact .inl rfl | exact .inr rfl) : PS X (.Assign [.Name x pos'] e pos) (tAsg te (gName i)) := ps_set hN hi hx he hs hf
/-- xs.append(e), as a statement -/
theorem ps_app {o e : Expr} {name : Str} {to te : TE} {apos cpos pos : Pos} (ho : PE X o to) (he : PE X e te) (hn : name = "append" := by rfl)
    (hbase : attributeBase o name X.env (eval o X.env) = eval o X.env := by rfl)
    (hfew : ((backTo cpos (starEach [e] X.env)).all (fun x => !x.1) && (backToKw cpos (keywordEach [] X.env)).all (fun x => x.1.isSome)
      && decide (([e] : List Expr).length + ([] : List Keyword).length + (if ([] : List Keyword).isEmpty then 0 else 1) < 30)) = true := by rfl)
    (hline : (apos.endLine == cpos.line) = true := by rfl) (hs : starEach [e] X.env = (false, eval e X.env) :: starEach [] X.env := by rfl) (hsw : swapsWith (.Call (.Attribute o name apos) [e] [] cpos) none pos.line X.env = pure false := by rfl) :
    PS X (.Expr (.Call (.Attribute o name apos) [e] [] cpos) pos) (tDrop (tBM X.K "list" rAppend to (tCons te tNil))) := by
  subst hn
  exact ps_expr (pe_bm PySem.F.plainAttrs_list PySem.F.slot_list_append PySem.F.type_list_append mt_append ho (pa_cons he pa_nil hs) hbase hfew hline hs rfl) hsw
end
end K41
namespace K41
open PySem PySem.Spec PyProof.Rows L2
/-! K41Comp: comprehensions that make data of data. -/
section
variable {J : It} {n : Nat} {G : Hp → Prop} {Y : Nat → Hp → V → Hp → Prop} {K : PySem.W.Frag}
/-- a comprehension without tests -/
theorem lc_itY (w : Walk J n G Y) {g : TG} {te : TE} {vs : List Nat} {σ : L2.St} {H1 : Hp} {D : Addr} {Qd : Hp → Prop} (Pv : Nat → Hp → Prop) (h0 : Pv 0 (upd H1 D (.lst []))) (hG : ∀ i H, i ≤ n → Pv i H → G H)
    (hs : ∀ i x H H', i < n → Pv i H → Y i H x H' → g x (wipe σ vs) H' fun σ2 H2 => wipe σ2 vs = wipe σ vs ∧ te σ2 H2 fun y H4 => ∃ acc, H4 D = some (.lst acc) ∧ acc.length < sizeLine ∧ Pv (i + 1) (upd H4 D (.lst (acc ++ [y])))) (hd : ∀ H, Pv n H → Qd H) :
    ∃ W : Nat → Nat → Hp → Prop, (∃ m, W 0 m (upd H1 D (.lst []))) ∧ ∀ i m H, W i m H →
      (J.stop i H ∧ Qd H) ∨ (J.go i H ∧ ∃ Nx : Hp → Prop, (∀ H', Nx H' → ∃ m', m' < m ∧ W (i + 1) m' H') ∧ ∀ x H', J.yld i H x H' → g x (wipe σ vs) H' fun σ2 H2 => wipe σ2 vs = wipe σ vs ∧ tYes σ2 H2 fun b H3 =>
        if b = true then te σ2 H3 fun y H4 => ∃ acc, H4 D = some (.lst acc) ∧ acc.length < sizeLine ∧ Nx (upd H4 D (.lst (acc ++ [y]))) else Nx H3) :=
  lc_it w Pv h0 hG (fun i x H H' hi hP hY => hs i x H H' hi hP hY) hd
theorem lc_rangeY {lo : Int} {g : TG} {te : TE} {vs : List Nat} {σ : L2.St} {H1 : Hp} {D : Addr} {Qd : Hp → Prop} (Pv : Nat → Hp → Prop) (h0 : Pv 0 (upd H1 D (.lst [])))
    (hs : ∀ (i : Nat) H, i < n → Pv i H → g (.int (lo + i)) (wipe σ vs) H fun σ2 H2 => wipe σ2 vs = wipe σ vs ∧ te σ2 H2 fun y H4 => ∃ acc, H4 D = some (.lst acc) ∧ acc.length < sizeLine ∧ Pv (i + 1) (upd H4 D (.lst (acc ++ [y])))) (hd : ∀ H, Pv n H → Qd H) :
    ∃ W : Nat → Nat → Hp → Prop, (∃ m, W 0 m (upd H1 D (.lst []))) ∧ ∀ i m H, W i m H →
      ((Itr lo n).stop i H ∧ Qd H) ∨ ((Itr lo n).go i H ∧ ∃ Nx : Hp → Prop, (∀ H', Nx H' → ∃ m', m' < m ∧ W (i + 1) m' H') ∧ ∀ x H', (Itr lo n).yld i H x H' → g x (wipe σ vs) H' fun σ2 H2 => wipe σ2 vs = wipe σ vs ∧ tYes σ2 H2 fun b H3 =>
        if b = true then te σ2 H3 fun y H4 => ∃ acc, H4 D = some (.lst acc) ∧ acc.length < sizeLine ∧ Nx (upd H4 D (.lst (acc ++ [y]))) else Nx H3) :=
  lc_itY (walk_range (lo := lo) (n := n)) Pv h0 (fun _ _ _ _ => trivial) (fun i x H H' hi hP hY => by
    obtain ⟨rfl, rfl⟩ := hY
    exact hs i H' hi hP) hd
theorem lc_map (w : Walk J n G Y) {g : TG} {te : TE} {vs : List Nat} {σ : L2.St} {H1 : Hp} {D : Addr} {Qd : Hp → Prop} (es : List PyData) (hn : es.length = n) (hz : n ≤ 1000000) (hD : H1 D = none) (hG : ∀ H, Same H1 H → G H)
    (turn : ∀ (i : Nat) (e : PyData) (x : V) (H H' : Hp) (Qy : VK), es[i]? = some e → Same H1 H → Y i H x H' → (∀ y H4, Same H H4 → Dt (New H) H4 y e → Qy y H4) →
      g x (wipe σ vs) H' fun σ2 H2 => wipe σ2 vs = wipe σ vs ∧ te σ2 H2 Qy)
    (fin : ∀ (H' : Hp) (ys : List V), Same H1 H' → H' D = some (.lst ys) → DtL (fun a => H1 a = none ∧ a ≠ D) H' ys es → Qd H') :
    ∃ W : Nat → Nat → Hp → Prop, (∃ m, W 0 m (upd H1 D (.lst []))) ∧ ∀ i m H, W i m H →
      (J.stop i H ∧ Qd H) ∨ (J.go i H ∧ ∃ Nx : Hp → Prop, (∀ H', Nx H' → ∃ m', m' < m ∧ W (i + 1) m' H') ∧ ∀ x H', J.yld i H x H' → g x (wipe σ vs) H' fun σ2 H2 => wipe σ2 vs = wipe σ vs ∧ tYes σ2 H2 fun b H3 =>
        if b = true then te σ2 H3 fun y H4 => ∃ acc, H4 D = some (.lst acc) ∧ acc.length < sizeLine ∧ Nx (upd H4 D (.lst (acc ++ [y]))) else Nx H3) := by
  refine lc_it w (fun i H => Same H1 H ∧ ∃ ys, H D = some (.lst ys) ∧ DtL (fun a => H1 a = none ∧ a ≠ D) H ys (es.take i)) ⟨same_upd hD, [], upd_same, .nil⟩ (fun i H _ h => hG H h.1) (fun i x H H' hi hP hY => ?_) (fun H hP => ?_)
  · obtain ⟨hs, ys, hys, hd⟩ := hP
    have he : es[i]? = some (es[i]'(by omega)) := List.getElem?_eq_getElem _
    refine turn i _ x H H' _ he hs hY fun y H4 s4 d4 => ?_
    have hD4 := s4 _ _ hys
    refine ⟨ys, hD4, sizeLt (by rw [hd.len, List.length_take]; omega), same_set (hs.trans s4) hD, _, upd_same, ?_⟩
    rw [List.take_add_one, he]
    have nl : ∀ a, (H1 a = none ∧ a ≠ D) → ∀ xs, H4 a = some (HO.lst xs) → (upd H4 D (.lst (ys ++ [y]))) a = some (.lst xs) := fun a ha xs e => by
      rw [upd_ne ha.2]
      exact e
    have nt : ∀ a xs, H4 a = some (HO.tup xs) → (upd H4 D (.lst (ys ++ [y]))) a = some (.tup xs) := fun a xs e => by
      rw [upd_ne (ne_of e hD4 (by intro z; cases z))]
      exact e
    refine DtL.append (DtL.to (fun _ z => z) nt (fun a xs ha e => nl a ha xs e) _ _ (hd.same s4)) (.cons (Dt.to (fun a ha => ?_) nt (fun a xs ha e => nl a ?_ xs e) _ _ d4) .nil)
    · exact ⟨hs.free ha, fun z => by rw [z] at ha; rw [ha] at hys; cases hys⟩
    · exact ⟨hs.free ha, fun z => by rw [z] at ha; rw [ha] at hys; cases hys⟩
  · obtain ⟨hs, ys, hys, hd⟩ := hP
    rw [← hn, List.take_length] at hd
    exact fin H ys hs hys hd
/-- over a list, over a tuple: the i-th item with its datum -/
theorem lc_mapL {a : Addr} {xs : List V} {L : Addr → Prop} {ds : List PyData} {g : TG} {te : TE} {vs : List Nat} {σ : L2.St} {H1 : Hp} {D : Addr} {Qd : Hp → Prop} (hs : SqL K H1 a xs) (hx : DtL L H1 xs ds) (es : List PyData) (hn : es.length = ds.length) (hz : ds.length ≤ 1000000) (hD : H1 D = none)
    (turn : ∀ (i : Nat) (d e : PyData) (x : V) (H : Hp) (Qy : VK), ds[i]? = some d → es[i]? = some e → Same H1 H → Dt L H x d → (∀ y H4, Same H H4 → Dt (New H) H4 y e → Qy y H4) →
      g x (wipe σ vs) H fun σ2 H2 => wipe σ2 vs = wipe σ vs ∧ te σ2 H2 Qy)
    (fin : ∀ (H' : Hp) (ys : List V), Same H1 H' → H' D = some (.lst ys) → DtL (fun a => H1 a = none ∧ a ≠ D) H' ys es → Qd H') :
    ∃ W : Nat → Nat → Hp → Prop, (∃ m, W 0 m (upd H1 D (.lst []))) ∧ ∀ i m H, W i m H →
      ((Itl K a).stop i H ∧ Qd H) ∨ ((Itl K a).go i H ∧ ∃ Nx : Hp → Prop, (∀ H', Nx H' → ∃ m', m' < m ∧ W (i + 1) m' H') ∧ ∀ x H', (Itl K a).yld i H x H' → g x (wipe σ vs) H' fun σ2 H2 => wipe σ2 vs = wipe σ vs ∧ tYes σ2 H2 fun b H3 =>
        if b = true then te σ2 H3 fun y H4 => ∃ acc, H4 D = some (.lst acc) ∧ acc.length < sizeLine ∧ Nx (upd H4 D (.lst (acc ++ [y]))) else Nx H3) := by
  refine lc_map (walk_list (K := K) (a := a) (xs := xs)) es (by rw [hn, hx.len]) (by rw [hx.len]; exact hz) hD (fun H s => s.seq hs) (fun i e x H H' Qy he s hY q => ?_) fin
  obtain ⟨rfl, hv⟩ := hY
  obtain ⟨d, hd, dd⟩ := hx.getV hv
  exact turn i d e x H' Qy hd he s (dd.same s) q
theorem same_seqT {H H' : Hp} {a : Addr} {xs : List V} (e : Same H H') (h : SqT K H a xs) : SqT K H' a xs := by
  rcases h with (h | ⟨o, h⟩) | h
  · exact .inl (.inl (e _ _ h))
  · exact .inl (.inr ⟨o, e _ _ h⟩)
  · exact .inr h
theorem lc_mapT {a : Addr} {xs : List V} {L : Addr → Prop} {ds : List PyData} {g : TG} {te : TE} {vs : List Nat} {σ : L2.St} {H1 : Hp} {D : Addr} {Qd : Hp → Prop} (hs : SqT K H1 a xs) (hx : DtL L H1 xs ds) (es : List PyData) (hn : es.length = ds.length) (hz : ds.length ≤ 1000000) (hD : H1 D = none)
    (turn : ∀ (i : Nat) (d e : PyData) (x : V) (H : Hp) (Qy : VK), ds[i]? = some d → es[i]? = some e → Same H1 H → Dt L H x d → (∀ y H4, Same H H4 → Dt (New H) H4 y e → Qy y H4) →
      g x (wipe σ vs) H fun σ2 H2 => wipe σ2 vs = wipe σ vs ∧ te σ2 H2 Qy)
    (fin : ∀ (H' : Hp) (ys : List V), Same H1 H' → H' D = some (.lst ys) → DtL (fun a => H1 a = none ∧ a ≠ D) H' ys es → Qd H') :
    ∃ W : Nat → Nat → Hp → Prop, (∃ m, W 0 m (upd H1 D (.lst []))) ∧ ∀ i m H, W i m H →
      ((Itt K a).stop i H ∧ Qd H) ∨ ((Itt K a).go i H ∧ ∃ Nx : Hp → Prop, (∀ H', Nx H' → ∃ m', m' < m ∧ W (i + 1) m' H') ∧ ∀ x H', (Itt K a).yld i H x H' → g x (wipe σ vs) H' fun σ2 H2 => wipe σ2 vs = wipe σ vs ∧ tYes σ2 H2 fun b H3 =>
        if b = true then te σ2 H3 fun y H4 => ∃ acc, H4 D = some (.lst acc) ∧ acc.length < sizeLine ∧ Nx (upd H4 D (.lst (acc ++ [y]))) else Nx H3) := by
  refine lc_map (walk_tup (K := K) (a := a) (xs := xs)) es (by rw [hn, hx.len]) (by rw [hx.len]; exact hz) hD (fun H s => same_seqT s hs) (fun i e x H H' Qy he s hY q => ?_) fin
  obtain ⟨rfl, hv⟩ := hY
  obtain ⟨d, hd, dd⟩ := hx.getV hv
  exact turn i d e x H' Qy hd he s (dd.same s) q
theorem lc_mapR {lo : Int} {n : Nat} {g : TG} {te : TE} {vs : List Nat} {σ : L2.St} {H1 : Hp} {D : Addr} {Qd : Hp → Prop} (es : List PyData) (hn : es.length = n) (hz : n ≤ 1000000) (hD : H1 D = none)
    (turn : ∀ (i : Nat) (e : PyData) (H : Hp) (Qy : VK), i < n → es[i]? = some e → Same H1 H → (∀ y H4, Same H H4 → Dt (New H) H4 y e → Qy y H4) →
      g (.int (lo + i)) (wipe σ vs) H fun σ2 H2 => wipe σ2 vs = wipe σ vs ∧ te σ2 H2 Qy)
    (fin : ∀ (H' : Hp) (ys : List V), Same H1 H' → H' D = some (.lst ys) → DtL (fun a => H1 a = none ∧ a ≠ D) H' ys es → Qd H') :
    ∃ W : Nat → Nat → Hp → Prop, (∃ m, W 0 m (upd H1 D (.lst []))) ∧ ∀ i m H, W i m H →
      ((Itr lo n).stop i H ∧ Qd H) ∨ ((Itr lo n).go i H ∧ ∃ Nx : Hp → Prop, (∀ H', Nx H' → ∃ m', m' < m ∧ W (i + 1) m' H') ∧ ∀ x H', (Itr lo n).yld i H x H' → g x (wipe σ vs) H' fun σ2 H2 => wipe σ2 vs = wipe σ vs ∧ tYes σ2 H2 fun b H3 =>
        if b = true then te σ2 H3 fun y H4 => ∃ acc, H4 D = some (.lst acc) ∧ acc.length < sizeLine ∧ Nx (upd H4 D (.lst (acc ++ [y]))) else Nx H3) := by
  refine lc_map (walk_range (lo := lo) (n := n)) es hn hz hD (fun _ _ => trivial) (fun i e x H H' Qy he s hY q => ?_) fin
  obtain ⟨rfl, rfl⟩ := hY
  exact turn i e H' Qy (by rw [← hn]; exact (List.getElem?_eq_some_iff.mp he).1) he s q
/-- the list that such a comprehension makes -/
theorem Dt.made {H1 H' : Hp} {D : Addr} {ys : List V} {es : List PyData} (hD : H1 D = none) (h : H' D = some (.lst ys)) (d : DtL (fun a => H1 a = none ∧ a ≠ D) H' ys es) : Dt (New H1) H' (.ref D) (.list es) :=
  .lst hD h (d.weak fun _ z => z.1)
end
end K41
/-! K41Rules: t[::-1] of a tuple; enumerate over a tuple; what is asked of a list or a tuple alike. -/
namespace K41
open PySem PySem.Spec PyProof.Rows L2
section
variable {prog : Program} {w : World} {A : Around} {E : Value → Shared → Prop} {s : Shared}
theorem sliceApplied_rev {sl : Addr} {u : Tok} {n : Nat} {Q : Int × Int × Nat → Shared → Prop} (hs : s.heap.IsSliceOf sl .none .none (.int (-1) u))
    (h : Q ((n : Int) - 1, -1, n) s) : wpAny (model prog w) A (Builtin.Slice.sliceApplied (.ref sl) (pure (n : Int))) Q E s := by
  obtain ⟨os, hos, hcs, hds⟩ := id hs
  unfold Builtin.Slice.sliceApplied Builtin.Slice.sliceFields
  refine wpAny_bind (wpAny_bind (wpAny_field hos hds (x := .none) rfl (wpAny_bind (wpAny_field hos hds (x := .none) rfl (wpAny_bind (wpAny_field hos hds (x := .int (-1) u) rfl (wpAny_pure ?_)))))))
  refine wpAny_bind (slicePart_int ?_)
  show wpAny _ _ (if ((-1 : Int) == 0) = true then _ else _) _ _ s
  rw [if_neg (by decide)]
  refine wpAny_bind (slicePart_none (wpAny_bind (slicePart_none (wpAny_bind (wpAny_pure ?_)))))
  show wpAny _ _ (pure ((n : Int) - 1, (-1 : Int), Builtin.Slice.slicePlaces ((n : Int) - 1) (-1) (-1))) _ _ s
  have e : Builtin.Slice.slicePlaces ((n : Int) - 1) (-1) (-1) = n := by
    unfold Builtin.Slice.slicePlaces
    rw [if_neg (by decide)]
    by_cases h0 : (n : Int) - 1 > -1
    · rw [if_pos h0, show (- -1 : Int) = 1 by decide, Int.ediv_one]
      omega
    · rw [if_neg h0]
      omega
  rw [e]
  exact wpAny_pure h
theorem pick_rev (xs : Array Value) : ((List.range xs.size).filterMap fun (k : Nat) => xs[(((xs.size : Int) - 1) + (k : Int) * -1).toNat]?).toArray = xs.toList.reverse.toArray := by
  have e : (fun (k : Nat) => xs[(((xs.size : Int) - 1) + (k : Int) * -1).toNat]?) = (fun j => xs[j]?) ∘ fun k => xs.size - 1 - k := by
    funext k
    have : (((xs.size : Int) - 1) + (k : Int) * -1).toNat = xs.size - 1 - k := by omega
    rw [this]
    rfl
  rw [e, ← List.filterMap_map, PySem.W.krv_range, List.filterMap_reverse, PySem.W.krv_all]
theorem getItem_tuple_rev {t sl : Addr} {items : Array Value} {u : Tok} {Q : Value → Shared → Prop} (ht : IsTup s.heap t items) (hs : s.heap.IsSliceOf sl .none .none (.int (-1) u))
    (h : Q (.ref s.heap.objs.size) { s with heap := s.heap.push { cls := .type "tuple", data := .seq items.toList.reverse.toArray } })
    (hsz : items.size ≤ sizeLine) : wpAny (model prog w) A (getItem (.ref t) (.ref sl)) Q E s := by
  have htake : PySem.sizeOk (.seq items.toList.reverse.toArray) := by
    show items.toList.reverse.toArray.size ≤ sizeLine
    rw [List.size_toArray, List.length_reverse, Array.length_toList]
    exact hsz
  obtain ⟨os, hos, hcs, hds⟩ := id hs
  have hTs : s.TypeIs (.ref sl) "slice" := ⟨os, hos, hcs⟩
  unfold getItem
  try with_reducible refine wpAny_holding ?_
  first | refine wpAny_bind (wpAny_pure ?_) | skip
  refine wpAny_bind (wpAny_sequenceKey ht.typeIs (by decide) ?_)
  refine wpAny_bind (wpAny_callSpecial?_slot (name := Str.ofString "__getitem__") ht.typeIs PyProof.Rows.slot_tuple_getitem
    (wpAny_call_entry PyProof.Rows.slot_tuple_getitem ht.typeIs entry_tuple_getitem ?_ (args_tuple_getitem _ _)))
  show wpAny _ _ (Builtin.Tuple.tupleItemsOf (.ref t) >>= _) _ _ s
  refine wpAny_bind (tupleItemsOf_ ht ?_)
  refine wpAny_bind (wpAny_typeOf hTs ?_)
  rw [if_pos (by decide)]
  refine wpAny_bind (sliceApplied_rev hs ?_)
  have hno : ¬ ((((items.size : Int) - 1) == 0 && (-1 : Int) == 1 && items.size == items.size) = true) := by
    intro q
    rw [Bool.and_eq_true, Bool.and_eq_true] at q
    have q1 : (-1 : Int) = 1 := eq_of_beq q.1.2
    exact absurd q1 (by decide)
  show wpAny _ _ (if (((items.size : Int) - 1) == 0 && (-1 : Int) == 1 && items.size == items.size) = true then _ else _) _ _ s
  rw [if_neg hno, pick_rev]
  first
    | exact wpAny_bind (m := Builtin.Tuple.tupleExact _) (wpAny_newObj_type (wpAny_pure ⟨_, rfl, wpAny_pure h⟩) htake)
    | exact wpAny_bind (m := Builtin.Tuple.tupleExact _) (wpAny_newObj_type (wpAny_bind (wpAny_pure (wpAny_pure ⟨_, rfl, wpAny_pure h⟩))) htake)
    | exact wpAny_bind (wpAny_bind (m := Builtin.Tuple.tupleExact _) (wpAny_newObj_type (wpAny_pure (wpAny_pure ⟨_, rfl, wpAny_pure h⟩)) htake))
    | exact wpAny_bind (wpAny_bind (m := Builtin.Tuple.tupleExact _) (wpAny_newObj_type (wpAny_pure ⟨_, rfl, wpAny_pure h⟩) htake))
end
/-- t[::-1] -/
def tRevT (K : PySem.W.Frag) (te : TE) : TE := fun σ H Q => te σ H fun x H1 => ∃ a xs, x = .ref a ∧ SqT K H1 a xs ∧ ∀ p, H1 p = none → Q (.ref p) (upd H1 p (.tup xs.reverse))
theorem pe_revT {X : Cx} {e : Expr} {te : TE} {k : Nat} {p1 p2 p3 pos : Pos} (he : PE X e te) : PE X (.Subscript e (.Slice none none (some (.UnaryOp .USub (.Constant (.int 1) k p1) p2)) p3) pos) (tRevT X.K te) := by
  refine ⟨fun pins s σ H Q I h => ?_⟩
  refine Subscript_ (thn (he.run pins s σ H _ I h) fun v s1 ⟨x, H1, I1, r1, q1⟩ => ?_)
  obtain ⟨a, xs, ex, hx, q⟩ := q1
  subst ex
  cases r1
  have hst : PO X (some (.UnaryOp .USub (.Constant (.int 1) k p1) p2)) (tPart (tUn (rU fun i => .int (-i)) (tC (.int 1)))) := po_some (pe_un un_neg pe_int)
  refine wpAny_Slice (thn (po_none.run pins s1 σ H1 (fun o H2 => o = none ∧ H2 = H1) I1 ⟨rfl, rfl⟩) fun vl s2 ⟨l, H2, I2, pl, el, e2⟩ => ?_)
  subst el e2
  refine thn (po_none.run pins s2 σ H2 (fun o H3 => o = none ∧ H3 = H2) I2 ⟨rfl, rfl⟩) fun vu s3 ⟨u, H3, I3, pu, eu, e3⟩ => ?_
  subst eu e3
  refine thn (hst.run pins s3 σ H3 (fun o H4 => o = some (-1) ∧ H4 = H3) I3 ⟨1, rfl, -1, rfl, rfl, rfl⟩) fun vs s4 ⟨o, H4, I4, ps, eo, e4⟩ => ?_
  subst eo e4
  cases pl
  cases pu
  cases ps with
  | int _ tk =>
    have I5 : Inv X pins σ H4 { s4 with heap := s4.heap.push { cls := .type "slice", data := .fields #[.none, .none, .int (-1) tk] } } := I4.kept (t' := s4.toks) fun b ob q => Heap.get?_push_of_some _ q
    obtain ⟨its, r, ht, hz⟩ := I5.tuple hx
    have hlen := r.length
    show wpAny (model X.prog X.w) X.A (subscriptTail e (.Slice none none (some (.UnaryOp .USub (.Constant (.int 1) k p1) p2)) p3) (.ref a) (.ref s4.heap.objs.size)) (EP X pins σ Q) X.xe { s4 with heap := s4.heap.push { cls := .type "slice", data := .fields #[.none, .none, .int (-1) tk] } }
    refine tail_any (ops := [.ref a, .ref s4.heap.objs.size]) ht.typeIs (PyProof.Rows.slot_tuple_getitem.lookup) ?_ (by with_unfolding_all rfl)
    refine getItem_tuple_rev ht (Heap.IsSliceOf.new _ _ _ _) ?_ (by rw [List.size_toArray]; omega)
    refine ⟨.ref _, _, I5.laid (t' := s4.toks) (o := .tup xs.reverse) (fun b ob q => Heap.get?_push_of_some _ q) (Nat.le_refl _) ?_, rfl, q _ (I5.hok.fresh (Nat.le_refl _))⟩
    exact ⟨by rw [List.length_reverse]; exact hz, _, r.reverse, IsTup.new _ _⟩
/-! ### enumerate(tuple) -/
/-- the tuple at a, each item in a new pair -/
def IteT (a : Addr) : It :=
  ⟨fun i H => ∃ (xs : List V) (x : V), H a = some (.tup xs) ∧ xs[i]? = some x, fun i H v H' => ∃ T x, v = .ref T ∧ H T = none ∧ H' = upd H T (.tup [.int (i : Nat), x]) ∧ ∀ xs, H a = some (.tup xs) → xs[i]? = some x, fun i H => ∃ xs : List V, H a = some (.tup xs) ∧ xs.length = i⟩
theorem turn_enumT {P : Program} {w : World} {K : PySem.W.Frag} {elts : List Expr} {kk : Nat} {tpos : Pos} (a e it : Addr) :
    Turn P w K (.Tuple elts kk tpos) (IteT a) [e, it] e (fun i h => (∃ old, IsEnum h e it ((i : Nat) : Int) old) ∧ h.IsTupleIter it a i ∧ e ≠ it) where
  mem := by simp
  obj := fun i h st b hb => by
    obtain ⟨⟨old, he⟩, ⟨o, ho, hc, hd⟩, _⟩ := st
    have e' : b = e ∨ b = it := by simpa using hb
    rcases e' with z | z
    · rw [z]; exact ⟨_, he, fun v q => nomatch q⟩
    · rw [z]; exact ⟨o, ho, fun v q => by rw [hd] at q; cases q⟩
  keep := fun i h h' st k => let ⟨⟨old, he⟩, hi, hne⟩ := st; ⟨⟨old, k e (by simp) _ he⟩, hi.at fun o q => k it (by simp) o q, hne⟩
  item := by
    intro X hP hw hK hc i pins s σ H E I hf st hg
    subst hP hw hK
    obtain ⟨⟨old, he⟩, hit, hne⟩ := st
    obtain ⟨xs, x, hq, hx⟩ := hg
    obtain ⟨its, rv, p, hz⟩ := I.tuple (SqT.of hq)
    obtain ⟨u, hu, ru⟩ := rv.get hx
    have hel : e < s.heap.objs.size := Heap.lt_size he
    have hil : it < s.heap.objs.size := by obtain ⟨_, q, _⟩ := hit; exact Heap.lt_size q
    have hae : a ≠ e := ne_of_none hq (hf e (by simp)).1
    have hai : a ≠ it := ne_of_none hq (hf it (by simp)).1
    have D := Draws.tuple (prog := X.prog) (w := X.w) (A := X.A.in1) (I.ok.hd hc) it a hai its.toArray
    have hlt : i < its.toArray.size := by
      rw [List.size_toArray]
      exact (List.getElem?_eq_some_iff.mp hu).1
    refine wpAny_pyNext_enum_itemC D he ⟨hit, p⟩ hlt hne (by simp [hne, Ne.symm hae]) fun x' h' tk hPx ho hst' hT hsz hk => ?_
    obtain ⟨hit', _⟩ := hst'
    have ex' : x' = u := Option.some.inj (hPx.symm.trans (by simpa using hu))
    subst ex'
    refine ⟨_, rfl, wpAny_letOwnedTupleGo_enum (s := { s with heap := h', toks := tk + 1 }) ho fun h'' he' sb => ?_⟩
    have hT2 : h''.get? s.heap.objs.size = some { cls := .type "tuple", data := .seq #[.int i tk, x'] } := (sb.2 _ (Nat.ne_of_gt hel)).trans hT
    have new : ObjOk X.prog X.w (upd H s.heap.objs.size (.tup [.int (i : Nat), x])) h'' s.heap.objs.size (.tup [.int (i : Nat), x]) :=
      ⟨by show 2 ≤ sizeLine; decide, [.int i tk, x'], .cons ⟨_, rfl⟩ (.cons ru .nil), ⟨_, hT2, rfl, _, rfl⟩⟩
    have I1 : Inv X pins σ (upd H s.heap.objs.size (.tup [.int (i : Nat), x])) { s with heap := h'', toks := tk + 1 } :=
      I.turnedNew (ch := [e, it]) (fun b ob hb q => (sb.2 b (fun z => hb (by simp [z]))).trans (hk b ob (fun z => hb (by simp [z])) (fun z => hb (by simp [z])) q)) hf (Nat.le_refl _) new
    refine ⟨.ref s.heap.objs.size, _, I1, rfl, ⟨_, x, rfl, I.hok.fresh (Nat.le_refl _), rfl, fun ys hy => by rw [hq] at hy; cases hy; exact hx⟩, ⟨⟨x', ?_⟩, hit'.at fun o q => (sb.2 it (Ne.symm hne)).trans q, hne⟩, fun b hb => ?_⟩
    · have e1 : ((i + 1 : Nat) : Int) = (i : Int) + 1 := by omega
      rw [e1]; exact he'
    · have hb' : b < s.heap.objs.size := by
        have e' : b = e ∨ b = it := by simpa using hb
        rcases e' with z | z
        · rw [z]; exact hel
        · rw [z]; exact hil
      rw [upd_ne (Nat.ne_of_lt hb')]
      exact (hf b hb).1
  done := by
    intro X hP hw hK hc i pins s σ H E I hf st hg
    subst hP hw hK
    obtain ⟨⟨old, he⟩, hit, hne⟩ := st
    obtain ⟨xs, hq, hx⟩ := hg
    obtain ⟨its, rv, p, hz⟩ := I.tuple (SqT.of hq)
    obtain ⟨f0, f1, f2, f3, f4, f5⟩ := hf it (by simp)
    have hai : a ≠ it := ne_of_none hq f0
    have hl := rv.length
    have D := Draws.tuple (prog := X.prog) (w := X.w) (A := X.A.in1) (I.ok.hd hc) it a hai its.toArray
    have en : i = its.toArray.size := by
      rw [List.size_toArray]
      omega
    subst en
    exact wpAny_pyNext_enum_endD D he ⟨hit, p⟩ fun h' eb => ⟨rfl, I.turned (t' := s.toks) (fun b o hb q => eb b o hb q) f0 f1 f3 f4 f5⟩
  self := fun A i s Q E st h => let ⟨⟨_, he⟩, _⟩ := st; wpAny_pyIter_enum he h
theorem call_enumerate_tuple {prog : Program} {w : World} {A : Around} {E : Value → Shared → Prop} {s : Shared} {l : Addr} {items : Array Value} {Q : Value → Shared → Prop} (hL : s.heap.IsTuple l items)
    (h : ∀ h', IsEnum h' (s.heap.objs.size + 1) s.heap.objs.size 0 .none → h'.IsTupleIter s.heap.objs.size l 0 → h'.objs.size = s.heap.objs.size + 2 →
      (∀ b o, s.heap.get? b = some o → h'.get? b = some o) → Q (.ref (s.heap.objs.size + 1)) { s with heap := h' }) :
    wpAny (model prog w) A (call (.type "enumerate") [.ref l]) Q E s := by
  have M : Meets (Builtin.«enumerate.__new__» ⟨[.type "enumerate", .ref l], []⟩) (fun _ R s => s.heap.IsTuple l items ∧
      R (.ok (.ret (.ref (s.heap.push { cls := .type "tuple_iterator", data := .fields #[.ref l, .int 0 0] }).objs.size)))
        { s with heap := (s.heap.push { cls := .type "tuple_iterator", data := .fields #[.ref l, .int 0 0] }).push { cls := .type "enumerate", data := .fields #[.none, .bool false, .ref s.heap.objs.size, rawInt 0, .none, .none] } }) :=
    .of_wp fun prog w A R s h => by
      obtain ⟨hp, g, d, tk, os⟩ := s; obtain ⟨hl, h⟩ := h
      have hsub := sub_enumerate
      wp_walk
      refine wpAny_stack_any fun st => wpAny_pure ?_
      split
      · rename_i c _ _ _ _ _
        cases (c == Value.type "enumerate")
        · wp_walk using wpAny_pyIter_tuple hl
          exact ⟨_, rfl, h⟩
        · wp_walk using wpAny_pyIter_tuple hl
          exact ⟨_, rfl, h⟩
      · wp_walk using wpAny_pyIter_tuple hl
        exact ⟨_, rfl, h⟩
  refine callType_new F.called_enumerate (by decide) (F.typeCall_enumerate_1 _) (F.newCall_enumerate_1 _) (fun obj => F.args_object_init_2 obj _) F.entry_enumerate_new
    M ⟨hL, ?_⟩
  have hz : (s.heap.push { cls := .type "tuple_iterator", data := .fields #[.ref l, .int 0 0] }).objs.size = s.heap.objs.size + 1 := Heap.size_push ..
  show _ ∧ _
  rw [hz]
  have he : IsEnum ((s.heap.push { cls := .type "tuple_iterator", data := .fields #[.ref l, .int 0 0] }).push
      { cls := .type "enumerate", data := .fields #[.none, .bool false, .ref s.heap.objs.size, rawInt 0, .none, .none] }) (s.heap.objs.size + 1) s.heap.objs.size 0 .none := by
    have := Heap.get?_push_size (s.heap.push { cls := .type "tuple_iterator", data := .fields #[.ref l, .int 0 0] })
      (o := { cls := .type "enumerate", data := .fields #[.none, .bool false, .ref s.heap.objs.size, rawInt 0, .none, .none] }) rfl
    rw [hz] at this; exact this
  refine ⟨⟨_, he, rfl⟩, h _ he ⟨_, Heap.get?_push_of_some _ (Heap.get?_push_size _ rfl), rfl, rfl⟩ (by rw [Heap.size_push, hz]) fun b o x => Heap.get?_push_of_some _ (Heap.get?_push_of_some _ x)⟩
def iEnumT (ta : TA) : TI := fun σ H R => ta σ H fun vs H1 => ∃ a xs, vs = [.ref a] ∧ H1 a = some (.tup xs) ∧ R (IteT a) H1
theorem pi_enumT {X : Cx} {e : Expr} {ta : TA} {p pos tpos : Pos} {elts : List Expr} {kk : Nat} (hg : Gl X "enumerate") (hm : X.mg "enumerate" = none) (ha : PA X [e] ta) (hs : starEach [e] X.env = [(false, eval e X.env)] := by rfl) :
    PI X (.Tuple elts kk tpos) (.Call (.Name "enumerate" p) [e] [] pos) (iEnumT ta) := by
  refine ⟨fun pins s σ H R I h => ?_⟩
  refine Call_ (ld_blt I hg hm boot_enumerate (PyProof.Rows.callWith_type1 (thn (ha.run pos pins s σ H _ I h) fun us s1 ⟨vs, H1, I1, r1, q1⟩ => ?_) hs rfl))
  obtain ⟨a, xs, ex, hq, q⟩ := q1
  subst ex
  cases r1 with
  | cons r rr =>
    cases rr
    cases r
    obtain ⟨its, rv, p', hz⟩ := I1.tuple (SqT.of hq)
    refine call_enumerate_tuple p' fun h' he hit hsz hk => wpAny_pyIter_enum he ?_
    have I2 : Inv X pins σ H1 { s1 with heap := h' } := I1.kept (t' := s1.toks) hk
    refine ⟨s1.heap.objs.size + 1, [s1.heap.objs.size + 1, s1.heap.objs.size], _, _, H1, rfl, I2, turn_enumT a (s1.heap.objs.size + 1) s1.heap.objs.size, ⟨⟨.none, he⟩, hit, Nat.succ_ne_self _⟩, fun b hb => ?_, q⟩
    have e' : b = s1.heap.objs.size + 1 ∨ b = s1.heap.objs.size := by simpa using hb
    have hle : s1.heap.objs.size ≤ b := by
      rcases e' with z | z
      · rw [z]; exact Nat.le_add_right _ _
      · rw [z]; exact Nat.le_refl _
    exact I1.fpOk hle (I1.hok.fresh hle)
theorem walk_enumT {a : Addr} {xs : List V} : Walk (IteT a) xs.length (fun H => H a = some (.tup xs)) (YPair (fun i => some (.int (i : Nat))) (fun i => xs[i]?)) where
  goes := fun i H hi h => ⟨xs, xs[i], h, List.getElem?_eq_getElem hi⟩
  stops := fun H h => ⟨xs, h, rfl⟩
  yields := fun i H x H' _ h ⟨T, y, e, n, e', f⟩ => ⟨T, .int (i : Nat), y, e, n, e', rfl, f xs h⟩
theorem walk_zipT {K : PySem.W.Frag} {a b : Addr} {xs ys : List V} {n : Nat} (hn : n = min xs.length ys.length) : Walk (RZ.ItzT K a b) n (fun H => SqT K H a xs ∧ SqT K H b ys) (YPair (fun i => xs[i]?) (fun i => ys[i]?)) where
  goes := fun i H hi h => ⟨xs, ys, xs[i]'(by omega), ys[i]'(by omega), h.1, h.2, List.getElem?_eq_getElem _, List.getElem?_eq_getElem _⟩
  stops := fun H h => ⟨xs, ys, h.1, h.2, by omega⟩
  yields := fun i H x H' _ h ⟨T, y, z, e, n, e', f, g⟩ => ⟨T, y, z, e, n, e', f xs h.1, g ys h.2⟩
/-- a built-in class as a value -/
theorem pe_ty {X : Cx} (n : String) {x : Str} {pos : Pos} (hm : X.mg x = none) (hg : Gl X x := by rfl) (hv : bootBuiltins x = some (.type n) := by decide +kernel) (hn : x ≠ "__name__" := by decide) (hd : (x == ("__debug__" : Str)) = false := by decide) : PE X (.Name x pos) (tC (.ty n)) :=
  pe_bltn (v := .ty n) (u := .type n) hg hm hv rfl hn hd
/-- a module's constant -/
theorem pe_gint {X : Cx} {x : Str} {i : Int} {t : Tok} {pos : Pos} (hm : X.mg x = some (.int i t)) (hg : Gl X x := by rfl) (hd : (x == ("__debug__" : Str)) = false := by decide) : PE X (.Name x pos) (tC (.int i)) := pe_glob (v := .int i) hg hm ⟨t, rfl⟩ hd
theorem pe_gstr {X : Cx} {x z : Str} {t : Tok} {pos : Pos} (hm : X.mg x = some (.str z t)) (hg : Gl X x := by rfl) (hd : (x == ("__debug__" : Str)) = false := by decide) : PE X (.Name x pos) (tC (.str z)) := pe_glob (v := .str z) hg hm ⟨t, rfl⟩ hd
/-! ### the rules that speak of the written part, with it given (within a comprehension's block) -/
section
variable (K : PySem.W.Frag) {X : Cx} {e : Expr} {f : Str} {pos : Pos} {ta : TE} {tg : Expr}
theorem pe_fldK (he : PE X e ta) (hb : attributeBase e f X.env (eval e X.env) = eval e X.env) (hK : X.K = K := by rfl) : PE X (.Attribute e f pos) (tFld K ta f) := by
  subst hK
  exact pe_fld he hb
theorem ix_tupK (hK : X.K = K := by rfl) : IxR X (rIxT K) := by
  subst hK
  exact ix_tup
theorem ix_listK (hK : X.K = K := by rfl) : IxR X (rIxL K) := by
  subst hK
  exact ix_list
theorem call_lenK (hK : X.K = K := by rfl) : CallR X (.builtin "len") (fun xs H Q => ∃ p ys, xs = [.ref p] ∧ (SqL K H p ys ∨ SqT K H p ys) ∧ Q (.int ys.length) H) := by
  subst hK
  exact call_len_seq
theorem call_listK (hK : X.K = K := by rfl) : CallR X (.type "list") (fun xs H Q => ∃ p ys, xs = [.ref p] ∧ (SqL K H p ys ∨ SqT K H p ys) ∧ ∀ l, H l = none → Q (.ref l) (upd H l (.lst ys))) := by
  subst hK
  exact call_list_of
theorem call_tupleK (hK : X.K = K := by rfl) : CallR X (.type "tuple") (fun xs H Q => ∃ p ys, xs = [.ref p] ∧ ((SqL K H p ys ∧ ∀ l, H l = none → Q (.ref l) (upd H l (.tup ys))) ∨ (SqT K H p ys ∧ Q (.ref p) H))) := by
  subst hK
  exact call_tuple_of
theorem cr_allK (hc : X.calm = true) (hK : X.K = K := by rfl) : CallR X (.builtin "all") (rAll K) := by
  subst hK
  exact cr_all hc
theorem cr_anyK (hc : X.calm = true) (hK : X.K = K := by rfl) : CallR X (.builtin "any") (rAny K) := by
  subst hK
  exact cr_any hc
theorem cr_maxK (hc : X.calm = true) (hK : X.K = K := by rfl) : CallR X (.builtin "max") (rMax K) := by
  subst hK
  exact cr_max hc
theorem pg_tupK (n : Nat) {es : List Expr} {k : Nat} {t : TGs} (hc : X.calm = true) (h : PGs X es t)
    (hn : (assignEach es X.env).length = n := by rfl) (hst : (assignEach es X.env).findIdx? (·.1) = none := by rfl) (hK : X.K = K := by rfl) : PG X (.Tuple es k pos) (gTup K n t) := by
  subst hK
  exact pg_tup hc h hn hst
theorem pi_listK (hl : PE X e ta) (hK : X.K = K := by rfl) : PI X tg e (iList K ta) := by
  subst hK
  exact pi_list hl
theorem pi_tupK (hl : PE X e ta) (hK : X.K = K := by rfl) : PI X tg e (iTup K ta) := by
  subst hK
  exact pi_tup hl
theorem sl_listK (hK : X.K = K := by rfl) : SlR X (rSlL K) := by
  subst hK
  exact sl_list
theorem pe_revTK {k : Nat} {p1 p2 p3 : Pos} (he : PE X e ta) (hK : X.K = K := by rfl) : PE X (.Subscript e (.Slice none none (some (.UnaryOp .USub (.Constant (.int 1) k p1) p2)) p3) pos) (tRevT K ta) := by
  subst hK
  exact pe_revT he
/-- a walk over a list or a tuple -/
def iSeq (ta : TE) : TI := fun σ H R => ta σ H fun x H1 => ∃ a, x = .ref a ∧ (((∃ xs, SqL K H1 a xs) ∧ R (Itl K a) H1) ∨ ((∃ xs, SqT K H1 a xs) ∧ R (Itt K a) H1))
theorem pi_seqK (hl : PE X e ta) (hK : X.K = K := by rfl) : PI X tg e (iSeq K ta) := by
  subst hK
  refine ⟨fun pins s σ H R I h => ?_⟩
  refine thn (hl.run pins s σ H (fun x H1 => ∃ a, x = .ref a ∧ (((∃ xs, SqL X.K H1 a xs) ∧ R (Itl X.K a) H1) ∨ ((∃ xs, SqT X.K H1 a xs) ∧ R (Itt X.K a) H1))) I h) fun v s1 ⟨x, H1, I1, r1, a, ex, q⟩ => ?_
  subst ex
  obtain rfl : v = Value.ref a := r1
  rcases q with ⟨⟨xs, hq⟩, q⟩ | ⟨⟨xs, hq⟩, q⟩
  · obtain ⟨its, rv, p, hz⟩ := I1.list hq
    refine wpAny_pyIter_list p.isList ?_
    refine ⟨s1.heap.objs.size, [s1.heap.objs.size], _, _, H1, rfl, I1.kept (t' := s1.toks) fun b o e => Heap.get?_push_of_some _ e, turn_list a _, ⟨_, Heap.get?_push_size _ rfl, rfl, rfl⟩, fun b hb => ?_, q⟩
    have e : b = s1.heap.objs.size := by simpa using hb
    subst e
    exact I1.fpOk (Nat.le_refl _) (I1.hok.fresh (Nat.le_refl _))
  · obtain ⟨its, rv, p, hz⟩ := I1.tuple hq
    refine wpAny_pyIter_tuple (show s1.heap.IsTuple a its.toArray from p) ?_
    refine ⟨s1.heap.objs.size, [s1.heap.objs.size], _, _, H1, rfl, I1.kept (t' := s1.toks) fun b o e => Heap.get?_push_of_some _ e, turn_tuple a _, ⟨_, Heap.get?_push_size _ rfl, rfl, rfl⟩, fun b hb => ?_, q⟩
    have e : b = s1.heap.objs.size := by simpa using hb
    subst e
    exact I1.fpOk (Nat.le_refl _) (I1.hok.fresh (Nat.le_refl _))
end
theorem bl_t {p : Prop} [Decidable p] (h : p) : V.bl (decide p) = V.bl true := congrArg V.bl (decide_eq_true h)
theorem bl_f {p : Prop} [Decidable p] (h : ¬ p) : V.bl (decide p) = V.bl false := congrArg V.bl (decide_eq_false h)
end K41
/-! K41W1: checks, logs, changes. -/
namespace K41
open PySem PySem.Spec PyProof.Rows L2
/-! ### the data of the program -/
def eRow (r : Row) : PyData := .tuple [.int r.1, .int r.2.1, .bool r.2.2]
def eFind (f : Find) : PyData := .tuple [.int f.1, .int f.2.1, .int f.2.2]
def eStp (s : Stp) : PyData := .tuple [.str (if s.left = true then "left" else "right"), .int s.cut, .bool s.sure]
def eBd (q : Bd) : PyData := .tuple [.int q.1, .int q.2.1, .int q.2.2]
/-- a log in the heap -/
def LogAt (K : PySem.W.Frag) (H : Hp) (v : V) (N : Nat) (rows : List Row) : Prop :=
  ∃ p dx t, v = .ref p ∧ H p = some (.ins (He.ga K "Log") dx [("offices", .int N), ("rows", .ref t)]) ∧ Im H (.ref t) (.tuple (rows.map eRow))
theorem LogAt.same {K : PySem.W.Frag} {H H' : Hp} {v : V} {N : Nat} {rows : List Row} (s : Same H H') (h : LogAt K H v N rows) : LogAt K H' v N rows := by
  obtain ⟨p, dx, t, e, h, d⟩ := h
  exact ⟨p, dx, t, e, s _ _ h, d.same s⟩
section
variable {L : Addr → Prop} {H : Hp}
theorem row_at {v : V} {r : Row} (h : Dt L H v (eRow r)) : ∃ a, v = .ref a ∧ H a = some (.tup [.int r.1, .int r.2.1, .bl r.2.2]) := by
  obtain ⟨a, xs, rfl, ha, d⟩ := h.tupE
  cases d with
  | cons h1 d =>
    cases d with
    | cons h2 d =>
      cases d with
      | cons h3 d =>
        cases d
        cases h1.intE
        cases h2.intE
        cases h3.blE
        exact ⟨a, rfl, ha⟩
theorem find_at {v : V} {r : Find} (h : Dt L H v (eFind r)) : ∃ a, v = .ref a ∧ H a = some (.tup [.int r.1, .int r.2.1, .int r.2.2]) := by
  obtain ⟨a, xs, rfl, ha, d⟩ := h.tupE
  cases d with
  | cons h1 d =>
    cases d with
    | cons h2 d =>
      cases d with
      | cons h3 d =>
        cases d
        cases h1.intE
        cases h2.intE
        cases h3.intE
        exact ⟨a, rfl, ha⟩
theorem stp_at {v : V} {r : Stp} (h : Dt L H v (eStp r)) : ∃ a, v = .ref a ∧ H a = some (.tup [.str (if r.left = true then "left" else "right"), .int r.cut, .bl r.sure]) := by
  obtain ⟨a, xs, rfl, ha, d⟩ := h.tupE
  cases d with
  | cons h1 d =>
    cases d with
    | cons h2 d =>
      cases d with
      | cons h3 d =>
        cases d
        cases h1.strE
        cases h2.intE
        cases h3.blE
        exact ⟨a, rfl, ha⟩
theorem bd_at {v : V} {r : Bd} (h : Dt L H v (eBd r)) : ∃ a, v = .ref a ∧ H a = some (.tup [.int r.1, .int r.2.1, .int r.2.2]) := by
  obtain ⟨a, xs, rfl, ha, d⟩ := h.tupE
  cases d with
  | cons h1 d =>
    cases d with
    | cons h2 d =>
      cases d with
      | cons h3 d =>
        cases d
        cases h1.intE
        cases h2.intE
        cases h3.intE
        exact ⟨a, rfl, ha⟩
theorem tri_mk {a : Addr} {x y z : Int} (h : H a = some (.tup [.int x, .int y, .int z])) : Dt L H (.ref a) (.tuple [.int x, .int y, .int z]) := .tup h (.cons (.int x) (.cons (.int y) (.cons (.int z) .nil)))
theorem trib_mk {a : Addr} {x y : Int} {z : Bool} (h : H a = some (.tup [.int x, .int y, .bl z])) : Dt L H (.ref a) (.tuple [.int x, .int y, .bool z]) := .tup h (.cons (.int x) (.cons (.int y) (.cons (.bl z) .nil)))
end
section
variable {P : Program} {w : World} {K : PySem.W.Frag} {mg : Str → Option Value} {base : Heap}
/-! ### checks -/
def spIsInteger : Sp := fun vs H Q _ => ∃ i, vs = [.int i] ∧ Q (.bl true) H
theorem sc_is_integer : FnScope ["thing"] ["thing"] (defScope st_is_integer) := ⟨rfl, rfl, rfl, by decide +kernel, rfl, by decide +kernel, by decide +kernel⟩
theorem ok_is_integer (T : Txt K mg) : Has P w K mg base 1 "is_integer" ["thing"] spIsInteger := by
  obtain ⟨fd, F⟩ := T.d_is_integer
  refine ⟨_, fd, F.ok sc_is_integer (fun vs H Q E h => ?_) (fun cdv A outer s H vs Q E hr h => ?_), T.g_is_integer, F.kp, F.bindsN fun _ _ _ _ _ _ us hl => match us, hl with | [_], _ => rfl⟩
  · obtain ⟨i, rfl, _⟩ := h
    rfl
  · obtain ⟨i, rfl, q⟩ := h
    refine ⟨_, PSs.nox (pss_one (ps_ret (pe_and (pe_callB call_isi (by rfl) T.f_isinstance (by decide +kernel) (pa_cons (pv 0) (pa_cons (pe_ty "int" T.f_int) pa_nil))) (pe_one (pe_not (pe_callB call_isi (by rfl) T.f_isinstance (by decide +kernel) (pa_cons (pv 0) (pa_cons (pe_ty "bool" T.f_bool) pa_nil)))))))), ?_⟩
    exact ⟨_, rfl, _, _, _, _, true, rfl, .ty _, .base (.int i), kit_ty (by decide +kernel), true, rfl, iteT ⟨_, rfl, _, _, _, _, false, rfl, .ty _, .base (.int i), kit_ty (by decide +kernel), false, rfl, q⟩⟩
def spIsWithin : Sp := fun vs H Q _ => ∃ i lo hi : Int, vs = [.int i, .int lo, .int hi] ∧ lo ≤ i ∧ i ≤ hi ∧ Q (.bl true) H
theorem sc_is_within : FnScope ["thing", "least", "most"] ["thing", "least", "most"] (defScope st_is_within) := ⟨rfl, rfl, rfl, by decide +kernel, rfl, by decide +kernel, by decide +kernel⟩
theorem ok_is_within (T : Txt K mg) (D_is_integer : Has P w K mg base 1 "is_integer" ["thing"] spIsInteger) : Has P w K mg base 2 "is_within" ["thing", "least", "most"] spIsWithin := by
  obtain ⟨fd, F⟩ := T.d_is_within
  refine ⟨_, fd, F.ok sc_is_within (fun vs H Q E h => ?_) (fun cdv A outer s H vs Q E hr h => ?_), T.g_is_within, F.kp, F.bindsN fun _ _ _ _ _ _ us hl => match us, hl with | [_, _, _], _ => rfl⟩
  · obtain ⟨i, lo, hi, rfl, _⟩ := h
    rfl
  · obtain ⟨i, lo, hi, rfl, h1, h2, q⟩ := h
    refine ⟨_, PSs.nox (pss_one (ps_ret (pe_and (pe_own D_is_integer (hr.mono (by decide)) (pa_cons (pv 0) pa_nil)) (pe_one (pe_chain op_le op_le (pv 1) (pv 0) (pv 2)))))), ?_⟩
    refine ⟨_, rfl, i, rfl, true, rfl, iteT ⟨_, rfl, _, rfl, _, _, rfl, rfl, true, bl_t h1, iteT ⟨_, rfl, _, _, rfl, rfl, ?_⟩⟩⟩
    show Q (.bl (decide (i ≤ hi))) H
    rw [decide_eq_true h2]
    exact q
def spIsListed : Sp := fun vs H Q _ => ∃ a xs, vs = [.ref a] ∧ (H a = some (.lst xs) ∨ H a = some (.tup xs)) ∧ ∀ H', Same H H' → Q (.bl true) H'
theorem sc_is_listed : FnScope ["thing"] ["thing"] (defScope st_is_listed) := ⟨rfl, rfl, rfl, by decide +kernel, rfl, by decide +kernel, by decide +kernel⟩
theorem ok_is_listed (T : Txt K mg) : Has P w K mg base 1 "is_listed" ["thing"] spIsListed := by
  obtain ⟨fd, F⟩ := T.d_is_listed
  refine ⟨_, fd, F.ok sc_is_listed (fun vs H Q E h => ?_) (fun cdv A outer s H vs Q E hr h => ?_), T.g_is_listed, F.kp, F.bindsN fun _ _ _ _ _ _ us hl => match us, hl with | [_], _ => rfl⟩
  · obtain ⟨a, xs, rfl, _⟩ := h
    rfl
  · obtain ⟨a, xs, rfl, ha, q⟩ := h
    refine ⟨_, PSs.nox (pss_one (ps_ret (pe_callB call_isiT (by rfl) T.f_isinstance (by decide +kernel) (pa_cons (pv 0) (pa_cons (pe_tup (pa_cons (pe_ty "list" T.f_list) (pa_cons (pe_ty "tuple" T.f_tuple) pa_nil))) pa_nil))))), ?_⟩
    refine ⟨_, rfl, (by show 2 ≤ sizeLine; decide), fun t ht => ?_⟩
    have st := same_upd (o := .tup [V.ty "list", V.ty "tuple"]) ht
    rcases ha with ha | ha
    · exact ⟨_, t, _, _, [.type "list", .type "tuple"], true, rfl, upd_same, .cons (.ty _) (.cons (.ty _) .nil), .base (.lst (st _ _ ha)), kitAny_cons (b := true) (kit_ty (by decide +kernel)) (fun z => nomatch z) (fun _ => rfl), q _ st⟩
    · exact ⟨_, t, _, _, [.type "list", .type "tuple"], true, rfl, upd_same, .cons (.ty _) (.cons (.ty _) .nil), .base (.tup (st _ _ ha)), kitAny_cons (b := false) (kit_ty (by decide +kernel)) (fun _ => kitAny_cons (b := true) (kit_ty (by decide +kernel)) (fun z => nomatch z) (fun _ => rfl)) (fun z => nomatch z), q _ st⟩
def spIsTriple : Sp := fun vs H Q _ => ∃ a x y z, vs = [.ref a] ∧ H a = some (.tup [x, y, z]) ∧ Q (.bl true) H
theorem sc_is_triple : FnScope ["thing"] ["thing"] (defScope st_is_triple) := ⟨rfl, rfl, rfl, by decide +kernel, rfl, by decide +kernel, by decide +kernel⟩
theorem ok_is_triple (T : Txt K mg) : Has P w K mg base 1 "is_triple" ["thing"] spIsTriple := by
  obtain ⟨fd, F⟩ := T.d_is_triple
  refine ⟨_, fd, F.ok sc_is_triple (fun vs H Q E h => ?_) (fun cdv A outer s H vs Q E hr h => ?_), T.g_is_triple, F.kp, F.bindsN fun _ _ _ _ _ _ us hl => match us, hl with | [_], _ => rfl⟩
  · obtain ⟨a, x, y, z, rfl, _⟩ := h
    rfl
  · obtain ⟨a, x, y, z, rfl, ha, q⟩ := h
    refine ⟨_, PSs.nox (pss_one (ps_ret (pe_and (pe_callB call_isi (by rfl) T.f_isinstance (by decide +kernel) (pa_cons (pv 0) (pa_cons (pe_ty "tuple" T.f_tuple) pa_nil))) (pe_one (pe_cmpR op_eq (pe_callB call_len_seq (by rfl) T.f_len PySem.boot_len (pa_cons (pv 0) pa_nil)) pe_int (nomark _)))))), ?_⟩
    exact ⟨_, rfl, _, _, _, _, true, rfl, .ty _, .base (.tup ha), kit_ty (by decide +kernel), true, rfl, iteT ⟨_, rfl, a, _, rfl, .inr (SqT.of ha), rfl, q⟩⟩
def spIsFlag : Sp := fun vs H Q _ => ∃ b, vs = [.bl b] ∧ Q (.bl true) H
theorem sc_is_flag : FnScope ["thing"] ["thing"] (defScope st_is_flag) := ⟨rfl, rfl, rfl, by decide +kernel, rfl, by decide +kernel, by decide +kernel⟩
theorem ok_is_flag (T : Txt K mg) : Has P w K mg base 1 "is_flag" ["thing"] spIsFlag := by
  obtain ⟨fd, F⟩ := T.d_is_flag
  refine ⟨_, fd, F.ok sc_is_flag (fun vs H Q E h => ?_) (fun cdv A outer s H vs Q E hr h => ?_), T.g_is_flag, F.kp, F.bindsN fun _ _ _ _ _ _ us hl => match us, hl with | [_], _ => rfl⟩
  · obtain ⟨b, rfl, _⟩ := h
    rfl
  · obtain ⟨b, rfl, q⟩ := h
    refine ⟨_, PSs.nox (pss_one (ps_ret (pe_callB call_isi (by rfl) T.f_isinstance (by decide +kernel) (pa_cons (pv 0) (pa_cons (pe_ty "bool" T.f_bool) pa_nil))))), ?_⟩
    exact ⟨_, rfl, _, _, _, _, true, rfl, .ty _, .base (.bl b), kit_ty (by decide +kernel), q⟩
/-! ### logs -/
def spIsRow : Sp := fun vs H Q _ => ∃ (N : Nat) (v : V) (r : Row), vs = [.int N, v] ∧ Im H v (eRow r) ∧ RowOk N r ∧ Q (.bl true) H
theorem sc_is_row : FnScope ["offices", "thing"] ["offices", "thing"] (defScope st_is_row) := ⟨rfl, rfl, rfl, by decide +kernel, rfl, by decide +kernel, by decide +kernel⟩
theorem ok_is_row (T : Txt K mg) (D_is_triple : Has P w K mg base 1 "is_triple" ["thing"] spIsTriple) (D_is_within : Has P w K mg base 2 "is_within" ["thing", "least", "most"] spIsWithin) (D_is_flag : Has P w K mg base 1 "is_flag" ["thing"] spIsFlag) :
    Has P w K mg base 3 "is_row" ["offices", "thing"] spIsRow := by
  obtain ⟨fd, F⟩ := T.d_is_row
  refine ⟨_, fd, F.ok sc_is_row (fun vs H Q E h => ?_) (fun cdv A outer s H vs Q E hr h => ?_), T.g_is_row, F.kp, F.bindsN fun _ _ _ _ _ _ us hl => match us, hl with | [_, _], _ => rfl⟩
  · obtain ⟨N, v, r, rfl, _⟩ := h
    rfl
  · obtain ⟨N, v, r, rfl, hv, ⟨h1, h2, h3⟩, q⟩ := h
    obtain ⟨a, rfl, ha⟩ := row_at hv
    refine ⟨_, PSs.nox (pss_cons (ps_if (PW.pt (pw_or (pt_not (pt_val (pe_own D_is_triple (hr.mono (by decide)) (pa_cons (pv 1) pa_nil)))) (pw_or (pt_not (pt_val (pe_own D_is_within (hr.mono (by decide)) (pa_cons (pe_ix ix_tup (pv 1) pe_int (fun _ _ => rfl)) (pa_cons pe_int (pa_cons (pe_op op_sub (pv 0) pe_int) pa_nil)))))) (pw_or1 (pt_not (pt_val (pe_own D_is_within (hr.mono (by decide)) (pa_cons (pe_ix ix_tup (pv 1) pe_int (fun _ _ => rfl)) (pa_cons pe_int (pa_cons (pe_op op_sub (pv 0) pe_int) pa_nil))))))))))
      (pss_one (ps_ret pe_bl))
      pss_nil)
    (pss_one (ps_ret (pe_and (pe_cmpR op_eq (pe_callB call_abs (by rfl) T.f_abs (by decide +kernel) (pa_cons (pe_op op_sub (pe_ix ix_tup (pv 1) pe_int (fun _ _ => rfl)) (pe_ix ix_tup (pv 1) pe_int (fun _ _ => rfl))) pa_nil)) pe_int (nomark _)) (pe_one (pe_own D_is_flag (hr.mono (by decide)) (pa_cons (pe_ix ix_tup (pv 1) pe_int (fun _ _ => rfl)) pa_nil))))))), ?_⟩
    have g0 : ∀ H', rIxT K (.ref a) (.int 0) H H' → True := fun _ _ => trivial
    refine ⟨_, rfl, a, _, _, _, rfl, ha, true, rfl, iteF ?_⟩
    refine ⟨_, rfl, a, _, _, _, rfl, rfl, SqT.of ha, atI_nat (j := 0) rfl, _, rfl, _, _, rfl, rfl, _, _, _, rfl, (by omega), (by omega), true, rfl, iteF ?_⟩
    refine ⟨_, rfl, a, _, _, _, rfl, rfl, SqT.of ha, atI_nat (j := 1) rfl, _, rfl, _, _, rfl, rfl, _, _, _, rfl, (by omega), (by omega), true, rfl, iteF ?_⟩
    refine ⟨_, rfl, a, _, _, _, rfl, rfl, SqT.of ha, atI_nat (j := 0) rfl, _, rfl, a, _, _, _, rfl, rfl, SqT.of ha, atI_nat (j := 1) rfl, _, _, rfl, rfl, _, rfl, rfl, true, ?_, iteT ⟨_, rfl, a, _, _, _, rfl, rfl, SqT.of ha, atI_nat (j := 2) rfl, r.2.2, rfl, q⟩⟩
    have e : (if ((r.1 : Int) - (r.2.1 : Int)) < 0 then -((r.1 : Int) - (r.2.1 : Int)) else ((r.1 : Int) - (r.2.1 : Int))) = 1 := by
      split <;> omega
    rw [e]
    rfl
end
end K41
/-! K41W2: logs made, rows turned. -/
namespace K41
open PySem PySem.Spec PyProof.Rows L2
theorem noL_row (r : Row) : noL (eRow r) = true := rfl
theorem noL_find (r : Find) : noL (eFind r) = true := rfl
theorem noL_stp (r : Stp) : noL (eStp r) = true := rfl
theorem noL_bd (r : Bd) : noL (eBd r) = true := rfl
section
variable {P : Program} {w : World} {K : PySem.W.Frag} {mg : Str → Option Value} {base : Heap}
def spFirstBad : Sp := fun vs H Q _ => ∃ (N : Nat) (v : V) (rows : List Row), vs = [.int N, v] ∧ Im H v (.tuple (rows.map eRow)) ∧ (∀ r ∈ rows, RowOk N r) ∧ ∀ H', Same H H' → Q .non H'
theorem sc_first_bad : FnScope ["offices", "rows", "number", "row"] ["offices", "rows"] (defScope st_first_bad) := ⟨rfl, rfl, rfl, by decide +kernel, rfl, by decide +kernel, by decide +kernel⟩
theorem ok_first_bad (T : Txt K mg) (D_is_row : Has P w K mg base 3 "is_row" ["offices", "thing"] spIsRow) : Has P w K mg base 4 "first_bad" ["offices", "rows"] spFirstBad := by
  obtain ⟨fd, F⟩ := T.d_first_bad
  refine ⟨_, fd, F.ok sc_first_bad (fun vs H Q E h => ?_) (fun cdv A outer s H vs Q E hr h => ?_), T.g_first_bad, F.kp, F.bindsN fun _ _ _ _ _ _ us hl => match us, hl with | [_, _], _ => rfl⟩
  · obtain ⟨N, v, rows, rfl, _⟩ := h
    rfl
  · obtain ⟨N, v, rows, rfl, hv, hok, q⟩ := h
    obtain ⟨a, xs, rfl, ha, hx⟩ := hv.tupE
    refine ⟨_, PSs.nox (pss_cons (ps_for PassesOwn.never rfl (pi_enumT rfl T.f_enumerate (pa_cons (pv 1) pa_nil)) (pg_tup rfl (pgs_cons (pgn (i := 2) sc_first_bad.nd) (pgs_cons (pgn (i := 3) sc_first_bad.nd) pgs_nil)))
      (pss_one (ps_if (pt_not (pt_val (pe_own D_is_row (hr.mono (by decide)) (pa_cons (pv 0) (pa_cons (pv 3) pa_nil)))))
        (pss_one (ps_ret (pv 2)))
        pss_nil)))
    (pss_one (ps_ret pe_non))), ?_⟩
    refine ⟨_, rfl, a, xs, rfl, ha, for_it (walk_enumT (xs := xs)) (fun i σ H' => Same H H' ∧ ∃ y2 y3, σ = [some (.int N), some (.ref a), y2, y3]) ⟨Same.refl H, none, none, rfl⟩ (fun i σ H' _ h => h.1 _ _ ha) ?_ ?_⟩
    · rintro i x σ H1 H2 hi ⟨s1, y2, y3, rfl⟩ ⟨t, z1, z2, rfl, nt, rfl, e1, e2⟩
      cases Option.some.inj e1
      refine ⟨t, [.int i, z2], rfl, .inl (.inl upd_same), rfl, _, _, rfl, _, _, rfl, rfl, ?_⟩
      have s2 := s1.trans (same_upd (o := .tup [.int i, z2]) nt)
      obtain ⟨d, hd, dd⟩ := hx.getV e2
      obtain ⟨r, hr', rfl⟩ := map_get hd
      refine ⟨_, rfl, _, rfl, N, z2, r, rfl, dd.same s2, hok r (List.mem_of_getElem? hr'), true, rfl, iteF ?_⟩
      exact ⟨s2, _, _, rfl⟩
    · rintro σ H1 ⟨s1, y2, y3, rfl⟩
      exact q H1 s1
/-! ### Log(..) -/
def spLogInit (K : PySem.W.Frag) : Sp := fun vs H Q _ => ∃ (p dx : Addr) (N : Nat) (t : Addr) (rows : List Row), vs = [.ref p, .int N, .ref t] ∧ H p = some (.ins (He.ga K "Log") dx []) ∧ Im H (.ref t) (.tuple (rows.map eRow)) ∧ (1 ≤ N ∧ N ≤ 12) ∧ rows.length ≤ 60 ∧ (∀ r ∈ rows, RowOk N r) ∧
  ∀ H', But p H H' → H' p = some (.ins (He.ga K "Log") dx [("offices", .int N), ("rows", .ref t)]) → Q .non H'
theorem sc_Log_init : FnScope ["self", "offices", "rows", "wrong"] ["self", "offices", "rows"] (defScope st_Log_init) := ⟨rfl, rfl, rfl, by decide +kernel, rfl, by decide +kernel, by decide +kernel⟩
theorem ok_Log_init (T : Txt K mg) (D_is_within : Has P w K mg base 2 "is_within" ["thing", "least", "most"] spIsWithin) (D_first_bad : Has P w K mg base 4 "first_bad" ["offices", "rows"] spFirstBad) :
    HasI P w K mg base 5 "Log" (He.ga K "Log") ["self", "offices", "rows"] (spLogInit K) := by
  obtain ⟨fd, F⟩ := T.d_Log_init
  obtain ⟨t1, e_MO⟩ := T.i_MOST_OFFICES
  obtain ⟨t2, e_MR⟩ := T.i_MOST_ROWS
  refine ⟨_, fd, F.ok sc_Log_init (fun vs H Q E h => ?_) (fun cdv A outer s H vs Q E hr h => ?_), T.k_Log, T.g_Log, F.bindsN fun _ _ _ _ _ _ us hl => match us, hl with | [_, _, _], _ => rfl⟩
  · obtain ⟨p, dx, N, t, rows, rfl, _⟩ := h
    rfl
  · obtain ⟨p, dx, N, t, rows, rfl, hp, hv, ⟨h1, h2⟩, h3, hok, q⟩ := h
    obtain ⟨a, xs, ea, ha, hx⟩ := hv.tupE
    cases ea
    have hlen : xs.length = rows.length := by rw [hx.len, List.length_map]
    refine ⟨_, PSs.nox (pss_cons (ps_if (pt_not (pt_val (pe_own D_is_within (hr.mono (by decide)) (pa_cons (pv 1) (pa_cons pe_int (pa_cons (pe_gint e_MO) pa_nil))))))
      (pss_one ps_never)
      pss_nil)
    (pss_cons (ps_if (PW.pt (pw_or (pt_not (pt_val (pe_callB call_isi (by rfl) T.f_isinstance (by decide +kernel) (pa_cons (pv 2) (pa_cons (pe_ty "tuple" T.f_tuple) pa_nil))))) (pw_or1 (pt_cmpR op_gt (pe_callB call_len_seq (by rfl) T.f_len PySem.boot_len (pa_cons (pv 2) pa_nil)) (pe_gint e_MR) (nomark _)))))
      (pss_one ps_never)
      pss_nil)
    (pss_cons (ps_v (i := 3) sc_Log_init.nd (pe_own D_first_bad (hr.mono (by decide)) (pa_cons (pv 1) (pa_cons (pv 2) pa_nil))))
    (pss_cons (ps_if (pt_cmp (pc_notN (pv 3)) rfl)
      (pss_one ps_never)
      pss_nil)
    (pss_cons (ps_fld (pv 0) (pv 1) rfl)
    (pss_one (ps_fld (pv 0) (pv 2) rfl))))))), ?_⟩
    refine ⟨_, rfl, _, _, _, rfl, (by omega), (by omega), true, rfl, iteF ?_⟩
    refine ⟨_, rfl, _, _, _, _, true, rfl, .ty _, .base (.tup ha), kit_ty (by decide +kernel), true, rfl, iteF ?_⟩
    refine ⟨_, rfl, _, _, rfl, .inr (SqT.of ha), _, _, rfl, rfl, false, bl_f (by rw [hlen]; omega), iteF ?_⟩
    refine ⟨_, rfl, _, rfl, N, _, rows, rfl, hv, hok, fun H1 s1 => ?_⟩
    refine ⟨_, rfl, false, rfl, iteF ?_⟩
    refine ⟨_, rfl, _, rfl, p, _, dx, _, rfl, s1 _ _ hp, T.c_Log, T.n_Log_offices, (by decide), _, rfl, _, rfl, p, _, dx, _, rfl, upd_same, T.c_Log, T.n_Log_rows, (by show 1 < 1000; decide), ?_⟩
    refine q _ ?_ upd_same
    exact (But.of s1).trans (But.set.trans But.set)
/-! ### raw_log -/
def spRawLog (K : PySem.W.Frag) : Sp := fun vs H Q _ => ∃ (N : Nat) (v : V) (rows : List Row) (L : Addr → Prop), vs = [.int N, v] ∧ Dt L H v (.list (rows.map eRow)) ∧ (1 ≤ N ∧ N ≤ 12) ∧ ∀ H' v', Same H H' → LogAt K H' v' N rows → Q v' H'
theorem sc_raw_log : FnScope ["offices", "rows", "log"] ["offices", "rows"] (defScope st_raw_log) := ⟨rfl, rfl, rfl, by decide +kernel, rfl, by decide +kernel, by decide +kernel⟩
theorem ok_raw_log (T : Txt K mg) (D_Log : HasI P w K mg base 5 "Log" (He.ga K "Log") ["self", "offices", "rows"] (spLogInit K)) : Has P w K mg base 7 "raw_log" ["offices", "rows"] (spRawLog K) := by
  obtain ⟨fd, F⟩ := T.d_raw_log
  refine ⟨_, fd, F.ok sc_raw_log (fun vs H Q E h => ?_) (fun cdv A outer s H vs Q E hr h => ?_), T.g_raw_log, F.kp, F.bindsN fun _ _ _ _ _ _ us hl => match us, hl with | [_, _], _ => rfl⟩
  · obtain ⟨N, v, rows, L, rfl, _⟩ := h
    rfl
  · obtain ⟨N, v, rows, L, rfl, hv, hN, q⟩ := h
    obtain ⟨a, xs, rfl, _, ha, hx⟩ := hv.lstE
    refine ⟨_, PSs.nox (pss_cons (ps_v (i := 2) sc_raw_log.nd (pe_ownI D_Log (hr.mono (by decide)) (pa_cons (pv 0) (pa_cons (pe_tup pa_nil) pa_nil))))
    (pss_cons (ps_fld (pv 2) (pe_callTy call_tuple_of (by rfl) T.f_tuple (by decide +kernel) (pa_cons (pv 1) pa_nil)) rfl)
    (pss_one (ps_ret (pv 2))))), ?_⟩
    refine ⟨_, rfl, Nat.zero_le _, fun t0 nt0 => ?_⟩
    have s0 := same_upd (o := .tup []) nt0
    intro x dx nx ndx nex
    have sx : Same (upd H t0 (.tup [])) (upd (upd (upd H t0 (.tup [])) dx (.own x)) x (.ins (He.ga K "Log") dx [])) := fun b o e => by
      rw [upd_ne (ne_of_none e nx), upd_ne (ne_of_none e ndx)]
      exact e
    refine ⟨x, dx, N, t0, [], rfl, upd_same, .tup (sx _ _ upd_same) .nil, hN, Nat.zero_le _, (fun _ h => nomatch h), fun H1 b1 e1 => ⟨rfl, ?_⟩⟩
    have s1 : Same H H1 := b1.same (s0.trans sx) (s0.free nx)
    refine ⟨_, rfl, a, xs, rfl, .inl ⟨SqL.of (s1 _ _ ha), fun t nt => ?_⟩⟩
    have s2 := s1.trans (same_upd (o := .tup xs) nt)
    have nxt : x ≠ t := ne_of_none e1 nt
    refine ⟨_, rfl, x, _, dx, [("offices", .int N), ("rows", .ref t0)], rfl, (upd_ne nxt).trans e1, T.c_Log, T.n_Log_rows, (by show 2 < 1000; decide), _, rfl, ?_⟩
    · refine q _ _ (same_set s2 (s0.free nx)) ⟨x, dx, t, rfl, upd_same, ?_⟩
      refine .tup (by rw [upd_ne nxt.symm, upd_same]) ?_
      have hx2 : ImL (upd H1 t (.tup xs)) xs (rows.map eRow) := (hx.free (noLA_map noL_row rows)).same s2
      exact hx2.tups fun b ys e => by
        rw [upd_ne (fun z => by rw [z, upd_ne nxt, e1] at e; cases e)]
        exact e
/-! ### rows -/
def spIsLeft : Sp := fun vs H Q _ => ∃ (v : V) (r : Row), vs = [v] ∧ Im H v (eRow r) ∧ Q (.bl (stepOf r).left) H
theorem sc_is_left : FnScope ["row"] ["row"] (defScope st_is_left) := ⟨rfl, rfl, rfl, by decide +kernel, rfl, by decide +kernel, by decide +kernel⟩
theorem ok_is_left (T : Txt K mg) : Has P w K mg base 1 "is_left" ["row"] spIsLeft := by
  obtain ⟨fd, F⟩ := T.d_is_left
  refine ⟨_, fd, F.ok sc_is_left (fun vs H Q E h => ?_) (fun cdv A outer s H vs Q E hr h => ?_), T.g_is_left, F.kp, F.bindsN fun _ _ _ _ _ _ us hl => match us, hl with | [_], _ => rfl⟩
  · obtain ⟨v, r, rfl, _⟩ := h
    rfl
  · obtain ⟨v, r, rfl, hv, q⟩ := h
    obtain ⟨a, rfl, ha⟩ := row_at hv
    refine ⟨_, PSs.nox (pss_one (ps_ret (pe_cmpR op_gt (pe_ix ix_tup (pv 0) pe_int (fun _ _ => rfl)) (pe_ix ix_tup (pv 0) pe_int (fun _ _ => rfl)) (nomark _)))), ?_⟩
    refine ⟨_, rfl, a, _, _, _, rfl, rfl, SqT.of ha, atI_nat (j := 1) rfl, _, rfl, a, _, _, _, rfl, rfl, SqT.of ha, atI_nat (j := 0) rfl, _, _, rfl, rfl, ?_⟩
    have e : decide ((r.1 : Int) < (r.2.1 : Int)) = (stepOf r).left := by
      show _ = decide (r.1 < r.2.1)
      by_cases h : r.1 < r.2.1
      · rw [decide_eq_true h, decide_eq_true (by omega)]
      · rw [decide_eq_false h, decide_eq_false (by omega)]
    show Q (.bl (decide ((r.1 : Int) < (r.2.1 : Int)))) H
    rw [e]
    exact q
def spCutOf : Sp := fun vs H Q _ => ∃ (v : V) (r : Row), vs = [v] ∧ Im H v (eRow r) ∧ Q (.int (stepOf r).cut) H
theorem sc_cut_of : FnScope ["row"] ["row"] (defScope st_cut_of) := ⟨rfl, rfl, rfl, by decide +kernel, rfl, by decide +kernel, by decide +kernel⟩
theorem ok_cut_of (T : Txt K mg) : Has P w K mg base 1 "cut_of" ["row"] spCutOf := by
  obtain ⟨fd, F⟩ := T.d_cut_of
  refine ⟨_, fd, F.ok sc_cut_of (fun vs H Q E h => ?_) (fun cdv A outer s H vs Q E hr h => ?_), T.g_cut_of, F.kp, F.bindsN fun _ _ _ _ _ _ us hl => match us, hl with | [_], _ => rfl⟩
  · obtain ⟨v, r, rfl, _⟩ := h
    rfl
  · obtain ⟨v, r, rfl, hv, q⟩ := h
    obtain ⟨a, rfl, ha⟩ := row_at hv
    refine ⟨_, PSs.nox (pss_one (ps_ret (pe_callB (call_max2 rfl) (by rfl) T.f_max (by decide +kernel) (pa_cons (pe_ix ix_tup (pv 0) pe_int (fun _ _ => rfl)) (pa_cons (pe_ix ix_tup (pv 0) pe_int (fun _ _ => rfl)) pa_nil))))), ?_⟩
    refine ⟨_, rfl, a, _, _, _, rfl, rfl, SqT.of ha, atI_nat (j := 0) rfl, _, rfl, a, _, _, _, rfl, rfl, SqT.of ha, atI_nat (j := 1) rfl, _, _, rfl, ?_⟩
    have e : (if ((r.2.1 : Int)) > (r.1 : Int) then ((r.2.1 : Int)) else (r.1 : Int)) = ((stepOf r).cut : Int) := by
      show _ = ((max r.1 r.2.1 : Nat) : Int)
      split <;> omega
    rw [e]
    exact q
def spTurnedRow : Sp := fun vs H Q _ => ∃ (N : Nat) (v : V) (r : Row), vs = [.int N, v] ∧ Im H v (eRow r) ∧ RowOk N r ∧ ∀ H' v', Same H H' → Im H' v' (eRow (turnRow N r)) → Q v' H'
theorem sc_turned_row : FnScope ["offices", "row"] ["offices", "row"] (defScope st_turned_row) := ⟨rfl, rfl, rfl, by decide +kernel, rfl, by decide +kernel, by decide +kernel⟩
theorem ok_turned_row (T : Txt K mg) : Has P w K mg base 1 "turned_row" ["offices", "row"] spTurnedRow := by
  obtain ⟨fd, F⟩ := T.d_turned_row
  refine ⟨_, fd, F.ok sc_turned_row (fun vs H Q E h => ?_) (fun cdv A outer s H vs Q E hr h => ?_), T.g_turned_row, F.kp, F.bindsN fun _ _ _ _ _ _ us hl => match us, hl with | [_, _], _ => rfl⟩
  · obtain ⟨N, v, r, rfl, _⟩ := h
    rfl
  · obtain ⟨N, v, r, rfl, hv, ⟨h1, h2, _⟩, q⟩ := h
    obtain ⟨a, rfl, ha⟩ := row_at hv
    refine ⟨_, PSs.nox (pss_one (ps_ret (pe_tup (pa_cons (pe_op op_sub (pe_op op_sub (pv 0) pe_int) (pe_ix ix_tup (pv 1) pe_int (fun _ _ => rfl))) (pa_cons (pe_op op_sub (pe_op op_sub (pv 0) pe_int) (pe_ix ix_tup (pv 1) pe_int (fun _ _ => rfl))) (pa_cons (pe_ix ix_tup (pv 1) pe_int (fun _ _ => rfl)) pa_nil)))))), ?_⟩
    refine ⟨_, rfl, _, _, rfl, rfl, _, rfl, a, _, _, _, rfl, rfl, SqT.of ha, atI_nat (j := 0) rfl, _, _, rfl, rfl, ?_⟩
    refine ⟨_, rfl, _, _, rfl, rfl, _, rfl, a, _, _, _, rfl, rfl, SqT.of ha, atI_nat (j := 1) rfl, _, _, rfl, rfl, ?_⟩
    refine ⟨_, rfl, a, _, _, _, rfl, rfl, SqT.of ha, atI_nat (j := 2) rfl, (by show 3 ≤ sizeLine; decide), fun t nt => ?_⟩
    refine q _ _ (same_upd nt) (trib_mk ?_)
    rw [upd_same]
    have e1 : (N : Int) - 1 - r.1 = ((N - 1 - r.1 : Nat) : Int) := by omega
    have e2 : (N : Int) - 1 - r.2.1 = ((N - 1 - r.2.1 : Nat) : Int) := by omega
    show some (HO.tup [V.int ((N : Int) - 1 - r.1), V.int ((N : Int) - 1 - r.2.1), V.bl r.2.2]) = _
    rw [e1, e2]
    rfl
def spMirrored (K : PySem.W.Frag) : Sp := fun vs H Q _ => ∃ (v : V) (N : Nat) (rows : List Row), vs = [v] ∧ LogAt K H v N rows ∧ (1 ≤ N ∧ N ≤ 12) ∧ rows.length ≤ 60 ∧ (∀ r ∈ rows, RowOk N r) ∧ ∀ H' v', Same H H' → LogAt K H' v' N (rows.map (turnRow N)) → Q v' H'
theorem sc_mirrored : FnScope ["log", "row"] ["log"] (defScope st_mirrored) := ⟨rfl, rfl, rfl, by decide +kernel, rfl, by decide +kernel, by decide +kernel⟩
theorem ok_mirrored (T : Txt K mg) (D_raw_log : Has P w K mg base 7 "raw_log" ["offices", "rows"] (spRawLog K)) (D_turned_row : Has P w K mg base 1 "turned_row" ["offices", "row"] spTurnedRow) : Has P w K mg base 8 "mirrored" ["log"] (spMirrored K) := by
  obtain ⟨fd, F⟩ := T.d_mirrored
  refine ⟨_, fd, F.ok sc_mirrored (fun vs H Q E h => ?_) (fun cdv A outer s H vs Q E hr h => ?_), T.g_mirrored, F.kp, F.bindsN fun _ _ _ _ _ _ us hl => match us, hl with | [_], _ => rfl⟩
  · obtain ⟨v, N, rows, rfl, _⟩ := h
    rfl
  · obtain ⟨v, N, rows, rfl, hL, hN, hlen, hok, q⟩ := h
    obtain ⟨p, dx, t, rfl, hp, ht⟩ := id hL
    obtain ⟨a, xs, ea, ha, hx⟩ := ht.tupE
    cases ea
    refine ⟨_, PSs.nox (pss_one (ps_ret (pe_own D_raw_log (hr.mono (by decide)) (pa_cons (pe_fld (pv 0) rfl) (pa_cons (pe_lc (own := [("row", 1)]) rfl sc_mirrored.nd (pi_tup (pe_fld (pv 0) rfl)) (blkOk_by (by rfl)) (fun _ _ _ _ _ => (pgn (i := 1) sc_mirrored.nd)) (fun _ _ _ _ _ => pts_nil) (fun _ _ _ _ _ => (pe_own D_turned_row (hr.mono (by decide)) (pa_cons (pe_fldK K (pv 0) rfl) (pa_cons (pv 1) pa_nil))))) pa_nil))))), ?_⟩
    refine ⟨_, rfl, p, _, dx, _, _, rfl, hp, T.c_Log, T.n_Log_offices, rfl, ?_⟩
    refine ⟨_, rfl, p, _, dx, _, _, rfl, hp, T.c_Log, T.n_Log_rows, rfl, t, rfl, ⟨_, SqT.of ha⟩, fun D hD => ?_⟩
    refine lc_mapT (SqT.of ha) hx ((rows.map (turnRow N)).map eRow) (by simp) (by simp; omega) hD (fun i d e x H1 Qy hd he s1 dx1 k => ?_) (fun H1 ys s1 e1 d1 => ?_)
    · obtain ⟨r, hr', rfl⟩ := map_get hd
      rw [List.map_map] at he
      obtain ⟨r2, hr2, rfl⟩ := map_get he
      rw [hr'] at hr2
      cases hr2
      refine ⟨rfl, ?_⟩
      refine ⟨_, rfl, p, _, dx, _, _, rfl, s1 _ _ hp, T.c_Log, T.n_Log_offices, rfl, _, rfl, N, x, r, rfl, dx1, hok r (List.mem_of_getElem? hr'), fun H2 v2 s2 d2 => ?_⟩
      exact k _ _ s2 d2.im
    · exact ⟨N, .ref D, rows.map (turnRow N), _, rfl, Dt.made hD e1 d1, hN, fun H2 v2 s2 l2 => q H2 v2 (s1.trans s2) l2⟩
end
end K41
/-! K41W3: finds are looked at, steps. -/
namespace K41
open PySem PySem.Spec PyProof.Rows L2
section
variable {P : Program} {w : World} {K : PySem.W.Frag} {mg : Str → Option Value} {base : Heap}
/-- the rows' tuple of a log -/
theorem LogAt.rows {H : Hp} {v : V} {N : Nat} {rows : List Row} (h : LogAt K H v N rows) : ∃ p dx t xs, v = .ref p ∧ H p = some (.ins (He.ga K "Log") dx [("offices", .int N), ("rows", .ref t)]) ∧ H t = some (.tup xs) ∧ ImL H xs (rows.map eRow) := by
  obtain ⟨p, dx, t, rfl, hp, ht⟩ := h
  obtain ⟨a, xs, ea, ha, hx⟩ := ht.tupE
  cases ea
  exact ⟨p, dx, t, xs, rfl, hp, ha, hx⟩
def spIsFind (K : PySem.W.Frag) : Sp := fun vs H Q _ => ∃ (vl : V) (N : Nat) (rows : List Row) (v : V) (f : Find), vs = [vl, v] ∧ LogAt K H vl N rows ∧ Im H v (eFind f) ∧ FindOk N rows.length f ∧ Q (.bl true) H
theorem sc_is_find : FnScope ["log", "thing"] ["log", "thing"] (defScope st_is_find) := ⟨rfl, rfl, rfl, by decide +kernel, rfl, by decide +kernel, by decide +kernel⟩
theorem ok_is_find (T : Txt K mg) (D_is_triple : Has P w K mg base 1 "is_triple" ["thing"] spIsTriple) (D_is_within : Has P w K mg base 2 "is_within" ["thing", "least", "most"] spIsWithin) :
    Has P w K mg base 3 "is_find" ["log", "thing"] (spIsFind K) := by
  obtain ⟨fd, F⟩ := T.d_is_find
  refine ⟨_, fd, F.ok sc_is_find (fun vs H Q E h => ?_) (fun cdv A outer s H vs Q E hr h => ?_), T.g_is_find, F.kp, F.bindsN fun _ _ _ _ _ _ us hl => match us, hl with | [_, _], _ => rfl⟩
  · obtain ⟨vl, N, rows, v, f, rfl, _⟩ := h
    rfl
  · obtain ⟨vl, N, rows, v, f, rfl, hL, hv, ⟨h1, h2, h3⟩, q⟩ := h
    obtain ⟨p, dx, t, xs, rfl, hp, ht, hx⟩ := hL.rows
    obtain ⟨a, rfl, ha⟩ := find_at hv
    have hlen : xs.length = rows.length := by rw [hx.len, List.length_map]
    refine ⟨_, PSs.nox (pss_cons (ps_if (PW.pt (pw_or (pt_not (pt_val (pe_own D_is_triple (hr.mono (by decide)) (pa_cons (pv 1) pa_nil)))) (pw_or1 (pt_not (pt_val (pe_own D_is_within (hr.mono (by decide)) (pa_cons (pe_ix (ix_tupK K) (pv 1) pe_int (fun _ _ => rfl)) (pa_cons pe_int (pa_cons (pe_callB (call_lenK K) (by rfl) T.f_len PySem.boot_len (pa_cons (pe_fldK K (pv 0) rfl) pa_nil)) pa_nil)))))))))
      (pss_one (ps_ret pe_bl))
      pss_nil)
    (pss_one (ps_ret (pe_and (pe_own D_is_within (hr.mono (by decide)) (pa_cons (pe_ix (ix_tupK K) (pv 1) pe_int (fun _ _ => rfl)) (pa_cons pe_int (pa_cons (pe_op op_sub (pe_fldK K (pv 0) rfl) pe_int) pa_nil)))) (pe_one (pe_own D_is_within (hr.mono (by decide)) (pa_cons (pe_ix (ix_tupK K) (pv 1) pe_int (fun _ _ => rfl)) (pa_cons pe_int (pa_cons (pe_op op_sub (pe_fldK K (pv 0) rfl) pe_int) pa_nil))))))))), ?_⟩
    refine ⟨_, rfl, a, _, _, _, rfl, ha, true, rfl, iteF ?_⟩
    refine ⟨_, rfl, a, _, _, _, rfl, rfl, SqT.of ha, atI_nat (j := 0) rfl, _, rfl, p, _, dx, _, _, rfl, hp, T.c_Log, T.n_Log_rows, rfl, t, xs, rfl, .inr (SqT.of ht), _, _, _, rfl, (by omega), (by omega), true, rfl, iteF ?_⟩
    refine ⟨_, rfl, a, _, _, _, rfl, rfl, SqT.of ha, atI_nat (j := 1) rfl, _, rfl, p, _, dx, _, _, rfl, hp, T.c_Log, T.n_Log_offices, rfl, _, _, rfl, rfl, _, _, _, rfl, (by omega), (by omega), true, rfl, iteT ?_⟩
    exact ⟨_, rfl, a, _, _, _, rfl, rfl, SqT.of ha, atI_nat (j := 2) rfl, _, rfl, p, _, dx, _, _, rfl, hp, T.c_Log, T.n_Log_offices, rfl, _, _, rfl, rfl, _, _, _, rfl, (by omega), (by omega), q⟩
/-- finds, in a list or in a tuple -/
def FindsAt (H : Hp) (v : V) (fs : List Find) : Prop := ∃ a xs, v = .ref a ∧ (H a = some (.lst xs) ∨ H a = some (.tup xs)) ∧ ImL H xs (fs.map eFind)
theorem FindsAt.same {H H' : Hp} {v : V} {fs : List Find} (s : Same H H') (h : FindsAt H v fs) : FindsAt H' v fs := by
  obtain ⟨a, xs, e, h, d⟩ := h
  exact ⟨a, xs, e, h.imp (s _ _) (s _ _), d.same s⟩
theorem FindsAt.ofL {H : Hp} {L : Addr → Prop} {v : V} {fs : List Find} (h : Dt L H v (.list (fs.map eFind))) : FindsAt H v fs := by
  obtain ⟨a, xs, rfl, _, h, d⟩ := h.lstE
  exact ⟨a, xs, rfl, .inl h, d.free (noLA_map noL_find fs)⟩
def spCheckFinds (K : PySem.W.Frag) : Sp := fun vs H Q _ => ∃ (vl : V) (N : Nat) (rows : List Row) (v : V) (fs : List Find), vs = [vl, v] ∧ LogAt K H vl N rows ∧ FindsAt H v fs ∧ fs.length ≤ 40 ∧ (∀ f ∈ fs, FindOk N rows.length f) ∧ ∀ H', Same H H' → Q .non H'
theorem sc_check_finds : FnScope ["log", "finds", "find"] ["log", "finds"] (defScope st_check_finds) := ⟨rfl, rfl, rfl, by decide +kernel, rfl, by decide +kernel, by decide +kernel⟩
theorem ok_check_finds (T : Txt K mg) (D_is_listed : Has P w K mg base 1 "is_listed" ["thing"] spIsListed) (D_is_find : Has P w K mg base 3 "is_find" ["log", "thing"] (spIsFind K)) :
    Has P w K mg base 4 "check_finds" ["log", "finds"] (spCheckFinds K) := by
  obtain ⟨fd, F⟩ := T.d_check_finds
  obtain ⟨t1, e_MF⟩ := T.i_MOST_FINDS
  refine ⟨_, fd, F.ok sc_check_finds (fun vs H Q E h => ?_) (fun cdv A outer s H vs Q E hr h => ?_), T.g_check_finds, F.kp, F.bindsN fun _ _ _ _ _ _ us hl => match us, hl with | [_, _], _ => rfl⟩
  · obtain ⟨vl, N, rows, v, fs, rfl, _⟩ := h
    rfl
  · obtain ⟨vl, N, rows, v, fs, rfl, hL, ⟨a, xs, rfl, ha, hx⟩, hn, hok, q⟩ := h
    have hlen : xs.length = fs.length := by rw [hx.len, List.length_map]
    refine ⟨_, PSs.nox (pss_one (ps_if (PW.pt (pw_or (pt_not (pt_val (pe_own D_is_listed (hr.mono (by decide)) (pa_cons (pv 1) pa_nil)))) (pw_or (pt_cmpR op_gt (pe_callB (call_lenK K) (by rfl) T.f_len PySem.boot_len (pa_cons (pv 1) pa_nil)) (pe_gint e_MF) (nomark _)) (pw_or1 (pt_not (pt_val (pe_callB (cr_allK K rfl) (by rfl) T.f_all (by decide +kernel) (pa_cons (pe_lc (own := [("find", 2)]) rfl sc_check_finds.nd (pi_seqK K (pv 1)) (blkOk_by (by rfl)) (fun _ _ _ _ _ => (pgn (i := 2) sc_check_finds.nd)) (fun _ _ _ _ _ => pts_nil) (fun _ _ _ _ _ => (pe_own D_is_find (hr.mono (by decide)) (pa_cons (pv 0) (pa_cons (pv 2) pa_nil))))) pa_nil))))))))
      (pss_one ps_never)
      pss_nil)), ?_⟩
    refine ⟨_, rfl, a, xs, rfl, ha, fun H1 s1 => ⟨true, rfl, iteF ?_⟩⟩
    have ha1 : H1 a = some (.lst xs) ∨ H1 a = some (.tup xs) := ha.imp (s1 _ _) (s1 _ _)
    have hx1 := hx.same s1
    refine ⟨_, rfl, a, xs, rfl, ha1.imp SqL.of SqT.of, _, _, rfl, rfl, false, bl_f (by rw [hlen]; omega), iteF ?_⟩
    -- the comprehension: all True
    have turn : ∀ (D : Addr) (i : Nat) (d e : PyData) (x : V) (H2 : Hp) (Qy : VK), (fs.map eFind)[i]? = some d → (fs.map fun _ => PyData.bool true)[i]? = some e → Same H1 H2 → Dt (fun _ => False) H2 x d → (∀ y H4, Same H2 H4 → Dt (New H2) H4 y e → Qy y H4) →
        gName 2 x (wipe (L2.start ["log", "finds", "find"] [vl, .ref a]) [2]) H2 fun σ2 H3 => wipe σ2 [2] = wipe (L2.start ["log", "finds", "find"] [vl, .ref a]) [2] ∧ tCall (spIsFind K) [] E0 (tCons (tVar 0) (tCons (tVar 2) tNil)) σ2 H3 Qy := by
      intro D i d e x H2 Qy hd he s2 dx k
      obtain ⟨f, hf, rfl⟩ := map_get hd
      obtain ⟨_, _, rfl⟩ := map_get he
      exact ⟨rfl, _, rfl, _, rfl, vl, N, rows, x, f, rfl, hL.same (s1.trans s2), dx, hok f (List.mem_of_getElem? hf), k _ _ (Same.refl _) (.bl true)⟩
    have fin : ∀ (D : Addr) (H2 : Hp) (ys : List V), Same H1 H2 → H2 D = some (.lst ys) → DtL (fun a => H1 a = none ∧ a ≠ D) H2 ys (fs.map fun _ => PyData.bool true) →
        rAll K [.ref D] H2 fun x H3 => ∃ c, x = V.bl c ∧ (if (!c) = true then False else Q .non H3) := by
      intro D H2 ys s2 hD dd
      have e : (fs.map fun _ => PyData.bool true) = (fs.map fun _ => true).map PyData.bool := by rw [List.map_map]; rfl
      rw [e] at dd
      refine ⟨D, fs.map fun _ => true, rfl, ?_, true, ?_, ?_⟩
      · rw [← dd.bls]
        exact SqL.of hD
      · have : ((fs.map fun _ => true).all id) = true := by
          rw [List.all_eq_true]
          intro x hx
          obtain ⟨_, _, rfl⟩ := List.mem_map.mp hx
          rfl
        rw [this]
      · exact iteF (q H2 (s1.trans s2))
    refine ⟨_, rfl, a, rfl, ?_⟩
    rcases ha1 with ha1 | ha1
    · exact .inl ⟨⟨xs, SqL.of ha1⟩, fun D hD => lc_mapL (SqL.of ha1) hx1 (fs.map fun _ => PyData.bool true) (by simp) (by simp; omega) hD (turn D) (fin D)⟩
    · exact .inr ⟨⟨xs, SqT.of ha1⟩, fun D hD => lc_mapT (SqT.of ha1) hx1 (fs.map fun _ => PyData.bool true) (by simp) (by simp; omega) hD (turn D) (fin D)⟩
/-! ### steps -/
def spStepOf : Sp := fun vs H Q _ => ∃ (v : V) (r : Row), vs = [v] ∧ Im H v (eRow r) ∧ ∀ H' v', Same H H' → Im H' v' (eStp (stepOf r)) → Q v' H'
theorem sc_step_of : FnScope ["row"] ["row"] (defScope st_step_of) := ⟨rfl, rfl, rfl, by decide +kernel, rfl, by decide +kernel, by decide +kernel⟩
theorem ok_step_of (T : Txt K mg) (D_is_left : Has P w K mg base 1 "is_left" ["row"] spIsLeft) (D_cut_of : Has P w K mg base 1 "cut_of" ["row"] spCutOf) : Has P w K mg base 2 "step_of" ["row"] spStepOf := by
  obtain ⟨fd, F⟩ := T.d_step_of
  obtain ⟨t1, e_L⟩ := T.s_ON_LEFT
  obtain ⟨t2, e_R⟩ := T.s_ON_RIGHT
  refine ⟨_, fd, F.ok sc_step_of (fun vs H Q E h => ?_) (fun cdv A outer s H vs Q E hr h => ?_), T.g_step_of, F.kp, F.bindsN fun _ _ _ _ _ _ us hl => match us, hl with | [_], _ => rfl⟩
  · obtain ⟨v, r, rfl, _⟩ := h
    rfl
  · obtain ⟨v, r, rfl, hv, q⟩ := h
    obtain ⟨a, rfl, ha⟩ := row_at hv
    refine ⟨_, PSs.nox (pss_one (ps_ret (pe_tup (pa_cons (pe_ifExp (pt_val (pe_own D_is_left (hr.mono (by decide)) (pa_cons (pv 0) pa_nil))) (pe_gstr e_L) (pe_gstr e_R)) (pa_cons (pe_own D_cut_of (hr.mono (by decide)) (pa_cons (pv 0) pa_nil)) (pa_cons (pe_ix (ix_tupK K) (pv 0) pe_int (fun _ _ => rfl)) pa_nil)))))), ?_⟩
    have fin : ∀ z : Str, z = (if (stepOf r).left = true then ("left" : Str) else ("right" : Str)) → ∀ p, H p = none → Q (.ref p) (upd H p (.tup [.str z, .int (stepOf r).cut, .bl r.2.2])) := fun z ez p np => by
      refine q _ _ (same_upd np) (.tup upd_same (.cons ?_ (.cons (.int _) (.cons (.bl _) .nil))))
      rw [ez]
      exact .str _
    refine ⟨_, rfl, _, r, rfl, hv, _, rfl, ite2 (fun e => ?_) (fun e => ?_)⟩
    · refine ⟨_, rfl, _, r, rfl, hv, _, rfl, a, _, _, _, rfl, rfl, SqT.of ha, atI_nat (j := 2) rfl, (by show 3 ≤ sizeLine; decide), fun p np => fin _ ?_ p np⟩
      rw [if_pos e]
    · refine ⟨_, rfl, _, r, rfl, hv, _, rfl, a, _, _, _, rfl, rfl, SqT.of ha, atI_nat (j := 2) rfl, (by show 3 ≤ sizeLine; decide), fun p np => fin _ ?_ p np⟩
      rw [if_neg e]
def spStepsOf (K : PySem.W.Frag) : Sp := fun vs H Q _ => ∃ (v : V) (N : Nat) (rows : List Row), vs = [v] ∧ LogAt K H v N rows ∧ rows.length ≤ 60 ∧ ∀ H' v', Same H H' → Dt (New H) H' v' (.list ((stepsOf rows).map eStp)) → Q v' H'
theorem sc_steps_of : FnScope ["log", "row"] ["log"] (defScope st_steps_of) := ⟨rfl, rfl, rfl, by decide +kernel, rfl, by decide +kernel, by decide +kernel⟩
theorem ok_steps_of (T : Txt K mg) (D_step_of : Has P w K mg base 2 "step_of" ["row"] spStepOf) : Has P w K mg base 3 "steps_of" ["log"] (spStepsOf K) := by
  obtain ⟨fd, F⟩ := T.d_steps_of
  refine ⟨_, fd, F.ok sc_steps_of (fun vs H Q E h => ?_) (fun cdv A outer s H vs Q E hr h => ?_), T.g_steps_of, F.kp, F.bindsN fun _ _ _ _ _ _ us hl => match us, hl with | [_], _ => rfl⟩
  · obtain ⟨v, N, rows, rfl, _⟩ := h
    rfl
  · obtain ⟨v, N, rows, rfl, hL, hn, q⟩ := h
    obtain ⟨p, dx, t, xs, rfl, hp, ht, hx⟩ := hL.rows
    refine ⟨_, PSs.nox (pss_one (ps_ret (pe_lc (own := [("row", 1)]) rfl sc_steps_of.nd (pi_tupK K (pe_fldK K (pv 0) rfl)) (blkOk_by (by rfl)) (fun _ _ _ _ _ => (pgn (i := 1) sc_steps_of.nd)) (fun _ _ _ _ _ => pts_nil) (fun _ _ _ _ _ => (pe_own D_step_of (hr.mono (by decide)) (pa_cons (pv 1) pa_nil)))))), ?_⟩
    refine ⟨_, rfl, p, _, dx, _, _, rfl, hp, T.c_Log, T.n_Log_rows, rfl, t, rfl, ⟨_, SqT.of ht⟩, fun D hD => ?_⟩
    refine lc_mapT (SqT.of ht) hx ((stepsOf rows).map eStp) (by unfold stepsOf; simp) (by simp; omega) hD (fun i d e x H1 Qy hd he s1 dx1 k => ?_) (fun H1 ys s1 e1 d1 => ?_)
    · obtain ⟨r, hr', rfl⟩ := map_get hd
      unfold stepsOf at he
      rw [List.map_map] at he
      obtain ⟨r2, hr2, rfl⟩ := map_get he
      rw [hr'] at hr2
      cases hr2
      exact ⟨rfl, _, rfl, x, r, rfl, dx1, fun H2 v2 s2 d2 => k _ _ s2 d2.im⟩
    · exact q H1 _ s1 (Dt.made hD e1 d1)
theorem lr_ne : V.str ("left" : Str) ≠ V.str ("right" : Str) := by decide +kernel
def spCutOn : Sp := fun vs H Q _ => ∃ (v : V) (s : Stp) (c : Int), vs = [v, .int c] ∧ Im H v (eStp s) ∧ Q (.int (cutOn s c)) H
theorem sc_cut_on : FnScope ["step", "cut"] ["step", "cut"] (defScope st_cut_on) := ⟨rfl, rfl, rfl, by decide +kernel, rfl, by decide +kernel, by decide +kernel⟩
theorem ok_cut_on (T : Txt K mg) : Has P w K mg base 1 "cut_on" ["step", "cut"] spCutOn := by
  obtain ⟨fd, F⟩ := T.d_cut_on
  obtain ⟨t1, e_L⟩ := T.s_ON_LEFT
  obtain ⟨t2, e_R⟩ := T.s_ON_RIGHT
  refine ⟨_, fd, F.ok sc_cut_on (fun vs H Q E h => ?_) (fun cdv A outer s H vs Q E hr h => ?_), T.g_cut_on, F.kp, F.bindsN fun _ _ _ _ _ _ us hl => match us, hl with | [_, _], _ => rfl⟩
  · obtain ⟨v, st, c, rfl, _⟩ := h
    rfl
  · obtain ⟨v, st, c, rfl, hv, q⟩ := h
    obtain ⟨a, rfl, ha⟩ := stp_at hv
    refine ⟨_, PSs.nox (pss_cons (ps_if (PW.pt (pw_and (pt_cmpR op_eq (pe_ix (ix_tupK K) (pv 0) pe_int (fun _ _ => rfl)) (pe_gstr e_L) (nomark _)) (pw_and1 (pt_cmpR op_eq (pe_ix (ix_tupK K) (pv 0) pe_int (fun _ _ => rfl)) (pv 1) (nomark _)))))
      (pss_one (ps_ret (pe_op op_sub (pv 1) pe_int)))
      pss_nil)
    (pss_cons (ps_if (PW.pt (pw_and (pt_cmpR op_eq (pe_ix (ix_tupK K) (pv 0) pe_int (fun _ _ => rfl)) (pe_gstr e_R) (nomark _)) (pw_and (pt_cmpR op_eq (pe_ix (ix_tupK K) (pv 0) pe_int (fun _ _ => rfl)) (pv 1) (nomark _)) (pw_and1 (pt_val (pe_ix (ix_tupK K) (pv 0) pe_int (fun _ _ => rfl)))))))
      (pss_one (ps_ret (pe_op op_add (pv 1) pe_int)))
      pss_nil)
    (pss_one (ps_ret (pv 1))))), ?_⟩
    obtain ⟨l, k, su⟩ := st
    cases l with
    | true =>
      have q0 : Q (.int (if (k : Int) = c then c - 1 else c)) H := by
        have e : cutOn ⟨true, k, su⟩ c = if (k : Int) = c then c - 1 else c := by
          unfold cutOn
          simp
        rw [← e]
        exact q
      refine ⟨_, rfl, a, _, _, _, rfl, rfl, SqT.of ha, atI_nat (j := 0) rfl, rfl, true, bl_t rfl, iteT ⟨_, rfl, a, _, _, _, rfl, rfl, SqT.of ha, atI_nat (j := 1) rfl, _, rfl, rfl, decide (V.int (k : Int) = V.int c), rfl, ite2 (fun e => ?_) (fun e => ?_)⟩⟩
      · have e' : (k : Int) = c := V.int.inj (of_decide_eq_true e)
        rw [if_pos e'] at q0
        exact ⟨_, rfl, _, _, rfl, rfl, q0⟩
      · have e' : ¬ (k : Int) = c := fun z => e (decide_eq_true (by rw [z]))
        rw [if_neg e'] at q0
        refine ⟨_, rfl, a, _, _, _, rfl, rfl, SqT.of ha, atI_nat (j := 0) rfl, rfl, false, bl_f lr_ne, iteF (iteF ⟨_, rfl, q0⟩)⟩
    | false =>
      have q0 : Q (.int (if (k : Int) = c then (if su = true then c + 1 else c) else c)) H := by
        have e : cutOn ⟨false, k, su⟩ c = if (k : Int) = c then (if su = true then c + 1 else c) else c := by
          unfold cutOn
          by_cases h : (k : Int) = c <;> cases su <;> simp [h]
        rw [← e]
        exact q
      refine ⟨_, rfl, a, _, _, _, rfl, rfl, SqT.of ha, atI_nat (j := 0) rfl, rfl, false, bl_f lr_ne.symm, iteF (iteF ?_)⟩
      refine ⟨_, rfl, a, _, _, _, rfl, rfl, SqT.of ha, atI_nat (j := 0) rfl, rfl, true, bl_t rfl, iteT ⟨_, rfl, a, _, _, _, rfl, rfl, SqT.of ha, atI_nat (j := 1) rfl, _, rfl, rfl, decide (V.int (k : Int) = V.int c), rfl, ite2 (fun e => ?_) (fun e => ?_)⟩⟩
      · have e' : (k : Int) = c := V.int.inj (of_decide_eq_true e)
        rw [if_pos e'] at q0
        refine ⟨_, rfl, a, _, _, _, rfl, rfl, SqT.of ha, atI_nat (j := 2) rfl, su, rfl, ite2 (fun e2 => ?_) (fun e2 => ?_)⟩
        · rw [if_pos e2] at q0
          exact ⟨_, rfl, _, _, rfl, rfl, q0⟩
        · rw [if_neg e2] at q0
          exact ⟨_, rfl, q0⟩
      · have e' : ¬ (k : Int) = c := fun z => e (decide_eq_true (by rw [z]))
        rw [if_neg e'] at q0
        exact iteF ⟨_, rfl, q0⟩
def spCutBack : Sp := fun vs H Q _ => ∃ (v : V) (s : Stp) (c : Int), vs = [v, .int c] ∧ Im H v (eStp s) ∧ Q (.int (cutBack s c)) H
theorem sc_cut_back : FnScope ["step", "cut"] ["step", "cut"] (defScope st_cut_back) := ⟨rfl, rfl, rfl, by decide +kernel, rfl, by decide +kernel, by decide +kernel⟩
theorem ok_cut_back (T : Txt K mg) : Has P w K mg base 1 "cut_back" ["step", "cut"] spCutBack := by
  obtain ⟨fd, F⟩ := T.d_cut_back
  obtain ⟨t1, e_L⟩ := T.s_ON_LEFT
  obtain ⟨t2, e_R⟩ := T.s_ON_RIGHT
  refine ⟨_, fd, F.ok sc_cut_back (fun vs H Q E h => ?_) (fun cdv A outer s H vs Q E hr h => ?_), T.g_cut_back, F.kp, F.bindsN fun _ _ _ _ _ _ us hl => match us, hl with | [_, _], _ => rfl⟩
  · obtain ⟨v, st, c, rfl, _⟩ := h
    rfl
  · obtain ⟨v, st, c, rfl, hv, q⟩ := h
    obtain ⟨a, rfl, ha⟩ := stp_at hv
    refine ⟨_, PSs.nox (pss_cons (ps_if (PW.pt (pw_and (pt_cmpR op_eq (pe_ix (ix_tupK K) (pv 0) pe_int (fun _ _ => rfl)) (pe_gstr e_R) (nomark _)) (pw_and1 (pt_cmpR op_eq (pe_ix (ix_tupK K) (pv 0) pe_int (fun _ _ => rfl)) (pe_op op_sub (pv 1) pe_int) (nomark _)))))
      (pss_one (ps_ret (pe_op op_sub (pv 1) pe_int)))
      pss_nil)
    (pss_cons (ps_if (PW.pt (pw_and (pt_cmpR op_eq (pe_ix (ix_tupK K) (pv 0) pe_int (fun _ _ => rfl)) (pe_gstr e_L) (nomark _)) (pw_and (pt_cmpR op_eq (pe_ix (ix_tupK K) (pv 0) pe_int (fun _ _ => rfl)) (pv 1) (nomark _)) (pw_and1 (pt_val (pe_ix (ix_tupK K) (pv 0) pe_int (fun _ _ => rfl)))))))
      (pss_one (ps_ret (pe_op op_add (pv 1) pe_int)))
      pss_nil)
    (pss_one (ps_ret (pv 1))))), ?_⟩
    obtain ⟨l, k, su⟩ := st
    cases l with
    | false =>
      have q0 : Q (.int (if (k : Int) = c - 1 then c - 1 else c)) H := by
        have e : cutBack ⟨false, k, su⟩ c = if (k : Int) = c - 1 then c - 1 else c := by
          unfold cutBack
          simp
        rw [← e]
        exact q
      refine ⟨_, rfl, a, _, _, _, rfl, rfl, SqT.of ha, atI_nat (j := 0) rfl, rfl, true, bl_t rfl, iteT ⟨_, rfl, a, _, _, _, rfl, rfl, SqT.of ha, atI_nat (j := 1) rfl, _, rfl, _, _, rfl, rfl, rfl, decide (V.int (k : Int) = V.int (c - 1)), rfl, ite2 (fun e => ?_) (fun e => ?_)⟩⟩
      · have e' : (k : Int) = c - 1 := V.int.inj (of_decide_eq_true e)
        rw [if_pos e'] at q0
        exact ⟨_, rfl, _, _, rfl, rfl, q0⟩
      · have e' : ¬ (k : Int) = c - 1 := fun z => e (decide_eq_true (by rw [z]))
        rw [if_neg e'] at q0
        refine ⟨_, rfl, a, _, _, _, rfl, rfl, SqT.of ha, atI_nat (j := 0) rfl, rfl, false, bl_f lr_ne.symm, iteF (iteF ⟨_, rfl, q0⟩)⟩
    | true =>
      have q0 : Q (.int (if (k : Int) = c then (if su = true then c + 1 else c) else c)) H := by
        have e : cutBack ⟨true, k, su⟩ c = if (k : Int) = c then (if su = true then c + 1 else c) else c := by
          unfold cutBack
          by_cases h : (k : Int) = c <;> cases su <;> simp [h]
        rw [← e]
        exact q
      refine ⟨_, rfl, a, _, _, _, rfl, rfl, SqT.of ha, atI_nat (j := 0) rfl, rfl, false, bl_f lr_ne, iteF (iteF ?_)⟩
      refine ⟨_, rfl, a, _, _, _, rfl, rfl, SqT.of ha, atI_nat (j := 0) rfl, rfl, true, bl_t rfl, iteT ⟨_, rfl, a, _, _, _, rfl, rfl, SqT.of ha, atI_nat (j := 1) rfl, _, rfl, rfl, decide (V.int (k : Int) = V.int c), rfl, ite2 (fun e => ?_) (fun e => ?_)⟩⟩
      · have e' : (k : Int) = c := V.int.inj (of_decide_eq_true e)
        rw [if_pos e'] at q0
        refine ⟨_, rfl, a, _, _, _, rfl, rfl, SqT.of ha, atI_nat (j := 2) rfl, su, rfl, ite2 (fun e2 => ?_) (fun e2 => ?_)⟩
        · rw [if_pos e2] at q0
          exact ⟨_, rfl, _, _, rfl, rfl, q0⟩
        · rw [if_neg e2] at q0
          exact ⟨_, rfl, q0⟩
      · have e' : ¬ (k : Int) = c := fun z => e (decide_eq_true (by rw [z]))
        rw [if_neg e'] at q0
        exact iteF ⟨_, rfl, q0⟩
end
end K41
/-! K41W4: bounds. -/
namespace K41
open PySem PySem.Spec PyProof.Rows L2
/-! ### a walk over a list or a tuple that stands -/
theorem seq_for {K : PySem.W.Frag} {a : Addr} {xs : List V} {g : TG} {tb : TS} {D : Ends} {σ : L2.St} {H : Hp} (ha : H a = some (.lst xs) ∨ H a = some (.tup xs)) (Pv : Nat → L2.St → Hp → Prop) (h0 : Pv 0 σ H) (hl : ∀ i σ' H', Pv i σ' H' → ∀ o, H a = some o → H' a = some o)
    (hs : ∀ i x σ H, xs[i]? = some x → Pv i σ H → g x σ H fun σ2 H2 => tb { D with nx := Pv (i + 1), ct := Pv (i + 1), bk := D.nx } σ2 H2) (hd : ∀ σ H, Pv xs.length σ H → D.nx σ H) :
    ((∃ xs, SqL K H a xs) ∧ ∃ W : Nat → Nat → L2.St → Hp → Prop, (∃ m, W 0 m σ H) ∧ ∀ i m σ H, W i m σ H →
      ((Itl K a).stop i H ∧ D.nx σ H) ∨ ((Itl K a).go i H ∧ ∃ N : L2.St → Hp → Prop, (∀ σ' H', N σ' H' → ∃ m', m' < m ∧ W (i + 1) m' σ' H') ∧ ∀ x H', (Itl K a).yld i H x H' → g x σ H' fun σ2 H2 => tb { D with nx := N, ct := N, bk := D.nx } σ2 H2)) ∨
    ((∃ xs, SqT K H a xs) ∧ ∃ W : Nat → Nat → L2.St → Hp → Prop, (∃ m, W 0 m σ H) ∧ ∀ i m σ H, W i m σ H →
      ((Itt K a).stop i H ∧ D.nx σ H) ∨ ((Itt K a).go i H ∧ ∃ N : L2.St → Hp → Prop, (∀ σ' H', N σ' H' → ∃ m', m' < m ∧ W (i + 1) m' σ' H') ∧ ∀ x H', (Itt K a).yld i H x H' → g x σ H' fun σ2 H2 => tb { D with nx := N, ct := N, bk := D.nx } σ2 H2)) := by
  rcases ha with ha | ha
  · exact .inl ⟨⟨xs, SqL.of ha⟩, for_list (xs := xs) Pv h0 (fun i σ' H' _ h => SqL.of (hl i σ' H' h _ ha)) hs hd⟩
  · exact .inr ⟨⟨xs, SqT.of ha⟩, for_tup (xs := xs) Pv h0 (fun i σ' H' _ h => SqT.of (hl i σ' H' h _ ha)) hs hd⟩
theorem lc_mapS {K : PySem.W.Frag} {a : Addr} {xs : List V} {L : Addr → Prop} {ds : List PyData} {g : TG} {te : TE} {vs : List Nat} {σ : L2.St} {H1 : Hp} {Qd : Addr → Hp → Prop} (ha : H1 a = some (.lst xs) ∨ H1 a = some (.tup xs)) (hx : DtL L H1 xs ds) (es : List PyData) (hn : es.length = ds.length) (hz : ds.length ≤ 1000000)
    (turn : ∀ (i : Nat) (d e : PyData) (x : V) (H : Hp) (Qy : VK), ds[i]? = some d → es[i]? = some e → Same H1 H → Dt L H x d → (∀ y H4, Same H H4 → Dt (New H) H4 y e → Qy y H4) →
      g x (wipe σ vs) H fun σ2 H2 => wipe σ2 vs = wipe σ vs ∧ te σ2 H2 Qy)
    (fin : ∀ (D : Addr) (H' : Hp) (ys : List V), H1 D = none → Same H1 H' → H' D = some (.lst ys) → DtL (fun a => H1 a = none ∧ a ≠ D) H' ys es → Qd D H') :
    ((∃ xs, SqL K H1 a xs) ∧ ∀ D, H1 D = none → ∃ W : Nat → Nat → Hp → Prop, (∃ m, W 0 m (upd H1 D (.lst []))) ∧ ∀ i m H, W i m H →
      ((Itl K a).stop i H ∧ Qd D H) ∨ ((Itl K a).go i H ∧ ∃ Nx : Hp → Prop, (∀ H', Nx H' → ∃ m', m' < m ∧ W (i + 1) m' H') ∧ ∀ x H', (Itl K a).yld i H x H' → g x (wipe σ vs) H' fun σ2 H2 => wipe σ2 vs = wipe σ vs ∧ tYes σ2 H2 fun b H3 =>
        if b = true then te σ2 H3 fun y H4 => ∃ acc, H4 D = some (.lst acc) ∧ acc.length < sizeLine ∧ Nx (upd H4 D (.lst (acc ++ [y]))) else Nx H3)) ∨
    ((∃ xs, SqT K H1 a xs) ∧ ∀ D, H1 D = none → ∃ W : Nat → Nat → Hp → Prop, (∃ m, W 0 m (upd H1 D (.lst []))) ∧ ∀ i m H, W i m H →
      ((Itt K a).stop i H ∧ Qd D H) ∨ ((Itt K a).go i H ∧ ∃ Nx : Hp → Prop, (∀ H', Nx H' → ∃ m', m' < m ∧ W (i + 1) m' H') ∧ ∀ x H', (Itt K a).yld i H x H' → g x (wipe σ vs) H' fun σ2 H2 => wipe σ2 vs = wipe σ vs ∧ tYes σ2 H2 fun b H3 =>
        if b = true then te σ2 H3 fun y H4 => ∃ acc, H4 D = some (.lst acc) ∧ acc.length < sizeLine ∧ Nx (upd H4 D (.lst (acc ++ [y]))) else Nx H3)) := by
  rcases ha with ha | ha
  · exact .inl ⟨⟨xs, SqL.of ha⟩, fun D hD => lc_mapL (SqL.of ha) hx es hn hz hD turn (fun H' ys => fin D H' ys hD)⟩
  · exact .inr ⟨⟨xs, SqT.of ha⟩, fun D hD => lc_mapT (SqT.of ha) hx es hn hz hD turn (fun H' ys => fin D H' ys hD)⟩
/-! ### the latest moments shown -/
def LatOk (fs : List Find) (kvs : List (Key × V)) : Prop := ∀ b : Nat, (valV kvs (.inl (b : Int)) = none ∧ ∀ f ∈ fs, f.2.2 ≠ b) ∨ ∃ m : Nat, valV kvs (.inl (b : Int)) = some (.int m) ∧ (∃ f ∈ fs, f.2.2 = b ∧ f.1 = m) ∧ ∀ f ∈ fs, f.2.2 = b → f.1 ≤ m
theorem LatOk.nil : LatOk [] [] := fun b => .inl ⟨valV_nil, fun _ h => nomatch h⟩
theorem LatOk.get {fs : List Find} {kvs : List (Key × V)} (h : LatOk fs kvs) (b m : Nat) : ∃ z : Int, (valV kvs (.inl (b : Int))).getD (.int (-1)) = .int z ∧ (((m : Int) ≤ z) ↔ shown fs b m = true) := by
  rcases h b with ⟨e, n⟩ | ⟨k, e, ⟨f, hf, e1, e2⟩, n⟩
  · refine ⟨-1, by rw [e]; rfl, ⟨fun z => by omega, fun z => ?_⟩⟩
    obtain ⟨f, hf, e1, _⟩ := shown_iff.mp z
    exact absurd e1 (n f hf)
  · refine ⟨k, by rw [e]; rfl, ⟨fun z => shown_iff.mpr ⟨f, hf, e1, by omega⟩, fun z => ?_⟩⟩
    obtain ⟨g, hg, e3, e4⟩ := shown_iff.mp z
    have := n g hg e3
    omega
theorem LatOk.put {fs : List Find} {kvs : List (Key × V)} (h : LatOk fs kvs) (f : Find) {j : Int} (hj : (valV kvs (.inl (f.2.2 : Int))).getD (.int 0) = .int j) : LatOk (fs ++ [f]) (putK kvs (.inl (f.2.2 : Int)) (.int (if j > (f.1 : Int) then j else f.1))) := by
  intro b
  rw [valV_put]
  by_cases e : b = f.2.2
  · subst e
    rw [if_pos rfl]
    right
    rcases h f.2.2 with ⟨e, n⟩ | ⟨k, e, ⟨g, hg, e1, e2⟩, n⟩
    · rw [e] at hj
      have ej : j = 0 := (V.int.inj hj).symm
      refine ⟨f.1, by rw [if_neg (by omega)], ⟨f, List.mem_append.mpr (.inr (List.mem_singleton.mpr rfl)), rfl, rfl⟩, fun g hg eg => ?_⟩
      rcases List.mem_append.mp hg with hg | hg
      · exact absurd eg (n g hg)
      · rw [List.mem_singleton.mp hg]
        exact Nat.le_refl _
    · rw [e] at hj
      have ej : j = k := (V.int.inj hj).symm
      by_cases c : (k : Int) > f.1
      · refine ⟨k, by rw [ej, if_pos c], ⟨g, List.mem_append.mpr (.inl hg), e1, e2⟩, fun g' hg' eg => ?_⟩
        rcases List.mem_append.mp hg' with hg' | hg'
        · exact n g' hg' eg
        · rw [List.mem_singleton.mp hg']
          omega
      · refine ⟨f.1, by rw [ej, if_neg c], ⟨f, List.mem_append.mpr (.inr (List.mem_singleton.mpr rfl)), rfl, rfl⟩, fun g' hg' eg => ?_⟩
        rcases List.mem_append.mp hg' with hg' | hg'
        · have := n g' hg' eg
          omega
        · rw [List.mem_singleton.mp hg']
          exact Nat.le_refl _
  · have ne : ¬ (Sum.inl (b : Int) : Key) = Sum.inl (f.2.2 : Int) := fun z => e (Int.ofNat.inj (Sum.inl.inj z))
    rw [if_neg ne]
    rcases h b with ⟨e1, n⟩ | ⟨k, e1, ⟨g, hg, e2, e3⟩, n⟩
    · refine .inl ⟨e1, fun g hg => ?_⟩
      rcases List.mem_append.mp hg with hg | hg
      · exact n g hg
      · rw [List.mem_singleton.mp hg]
        exact fun z => e z.symm
    · refine .inr ⟨k, e1, ⟨g, List.mem_append.mpr (.inl hg), e2, e3⟩, fun g' hg' eg => ?_⟩
      rcases List.mem_append.mp hg' with hg' | hg'
      · exact n g' hg' eg
      · rw [List.mem_singleton.mp hg'] at eg
        exact absurd eg.symm e
theorem LatOk.get0 {fs : List Find} {kvs : List (Key × V)} (h : LatOk fs kvs) (b : Nat) : ∃ j : Int, (valV kvs (.inl (b : Int))).getD (.int 0) = .int j := by
  rcases h b with ⟨e, _⟩ | ⟨k, e, _⟩
  · exact ⟨0, by rw [e]; rfl⟩
  · exact ⟨k, by rw [e]; rfl⟩
section
variable {P : Program} {w : World} {K : PySem.W.Frag} {mg : Str → Option Value} {base : Heap}
def spLatest : Sp := fun vs H Q _ => ∃ (v : V) (fs : List Find), vs = [v] ∧ FindsAt H v fs ∧ fs.length ≤ 40 ∧ ∀ H' d kvs, Same H H' → H d = none → H' d = some (.dK kvs) → LatOk fs kvs → Q (.ref d) H'
theorem sc_latest_shown : FnScope ["finds", "found", "moment", "office", "edition"] ["finds"] (defScope st_latest_shown) := ⟨rfl, rfl, rfl, by decide +kernel, rfl, by decide +kernel, by decide +kernel⟩
theorem ok_latest_shown (T : Txt K mg) : Has P w K mg base 1 "latest_shown" ["finds"] spLatest := by
  obtain ⟨fd, F⟩ := T.d_latest_shown
  refine ⟨_, fd, F.ok sc_latest_shown (fun vs H Q E h => ?_) (fun cdv A outer s H vs Q E hr h => ?_), T.g_latest_shown, F.kp, F.bindsN fun _ _ _ _ _ _ us hl => match us, hl with | [_], _ => rfl⟩
  · obtain ⟨v, fs, rfl, _⟩ := h
    rfl
  · obtain ⟨v, fs, rfl, ⟨a, xs, rfl, ha, hx⟩, hn, q⟩ := h
    have hlen : xs.length = fs.length := by rw [hx.len, List.length_map]
    refine ⟨_, PSs.nox (pss_cons (ps_v (i := 1) sc_latest_shown.nd pe_dnewK)
    (pss_cons (ps_for PassesOwn.never rfl (pi_seqK K (pv 0)) (pg_tupK K 3 rfl (pgs_cons (pgn (i := 2) sc_latest_shown.nd) (pgs_cons (pgn (i := 3) sc_latest_shown.nd) (pgs_cons (pgn (i := 4) sc_latest_shown.nd) pgs_nil))))
      (pss_one (ps_dput (hu_of hr) (pv 1) (pv 4) (pe_callB (call_max2 rfl) (by rfl) T.f_max (by decide +kernel) (pa_cons (pv 2) (pa_cons (pe_dget2 (hu_of hr) (pv 1) (pv 4) pe_int ⟨rfl, rfl, rfl, rfl⟩) pa_nil))) rfl)))
    (pss_one (ps_ret (pv 1))))), ?_⟩
    intro d nd
    have s0 := same_upd (o := .dK []) nd
    have nad : a ≠ d := fun z => by
      rw [z, nd] at ha
      rcases ha with ha | ha <;> cases ha
    refine ⟨_, rfl, a, rfl, seq_for (xs := xs) (ha.imp (s0 _ _) (s0 _ _)) (fun i σ H' => ∃ kvs y2 y3 y4, σ = [some (.ref a), some (.ref d), y2, y3, y4] ∧ Same H H' ∧ H' d = some (.dK kvs) ∧ LatOk (fs.take i) kvs ∧ kvs.length ≤ i)
      ⟨[], none, none, none, rfl, s0, upd_same, LatOk.nil, Nat.zero_le _⟩ (fun i σ' H' h o e => ?_) (fun i x σ H1 hx1 h => ?_) (fun σ H1 h => ?_)⟩
    · obtain ⟨_, _, _, _, _, s1, _⟩ := h
      rw [upd_ne nad] at e
      exact s1 _ _ e
    · obtain ⟨kvs, y2, y3, y4, rfl, s1, hd, hl, hk⟩ := h
      obtain ⟨dd, hdd, dx⟩ := hx.getV hx1
      obtain ⟨f, hf, rfl⟩ := map_get hdd
      obtain ⟨t, rfl, ht⟩ := find_at (dx.same s1)
      obtain ⟨j, hj⟩ := hl.get0 f.2.2
      have hi := (List.getElem?_eq_some_iff.mp hf).1
      refine ⟨t, _, rfl, SqT.of ht, rfl, _, _, rfl, _, _, rfl, _, _, rfl, rfl, ?_⟩
      refine ⟨_, rfl, _, rfl, d, rfl, .inl ⟨kvs, .inl hd⟩, _, rfl, _, DGet.k (k := .inl (f.2.2 : Int)) hd, _, _, by rw [hj], ?_⟩
      refine ⟨_, rfl, _, rfl, d, _, rfl, DPut.k (k := .inl (f.2.2 : Int)) hd (sizeLt (by omega)), ?_⟩
      refine ⟨_, _, _, _, rfl, same_set s1 nd, upd_same, ?_, Nat.le_trans (length_putK _ _ _) (by omega)⟩
      rw [List.take_add_one, hf]
      exact hl.put f hj
    · obtain ⟨kvs, y2, y3, y4, rfl, s1, hd, hl, hk⟩ := h
      rw [hlen, List.take_length] at hl
      exact ⟨_, rfl, q H1 d kvs s1 nd hd hl⟩
/-! ### the first bounds -/
def spFirstBounds : Sp := fun vs H Q _ => ∃ (N : Nat) (v : V) (fs : List Find), vs = [.int N, v] ∧ FindsAt H v fs ∧ N ≤ 12 ∧ fs.length ≤ 40 ∧ ∀ H' v', Same H H' → Dt (New H) H' v' (.list ((firstBounds N fs).map eBd)) → Q v' H'
theorem sc_first_bounds : FnScope ["offices", "finds", "found", "border", "moment", "office", "edition"] ["offices", "finds"] (defScope st_first_bounds) := ⟨rfl, rfl, rfl, by decide +kernel, rfl, by decide +kernel, by decide +kernel⟩
theorem ok_first_bounds (T : Txt K mg) : Has P w K mg base 1 "first_bounds" ["offices", "finds"] spFirstBounds := by
  obtain ⟨fd, F⟩ := T.d_first_bounds
  refine ⟨_, fd, F.ok sc_first_bounds (fun vs H Q E h => ?_) (fun cdv A outer s H vs Q E hr h => ?_), T.g_first_bounds, F.kp, F.bindsN fun _ _ _ _ _ _ us hl => match us, hl with | [_, _], _ => rfl⟩
  · obtain ⟨N, v, fs, rfl, _⟩ := h
    rfl
  · obtain ⟨N, v, fs, rfl, ⟨a, xs, rfl, ha, hx⟩, hN, hn, q⟩ := h
    refine ⟨_, PSs.nox (pss_cons (ps_setLc (i := 2) rfl sc_first_bounds.nd rfl rfl (sw_true rfl rfl rfl (by decide +kernel)) (own := [("border", 3)]) (pi_range1 rfl T.f_range (pa_cons (pe_op op_add (pv 0) pe_int) pa_nil)) (blkOk_by (by rfl)) (fun _ _ _ _ _ => (pgn (i := 3) sc_first_bounds.nd)) (fun _ _ _ _ _ => pts_nil) (fun _ _ _ _ _ => (pe_tup (pa_cons pe_int (pa_cons (pv 3) (pa_cons (pv 3) pa_nil))))))
    (pss_one (ps_ret (pe_op op_cat (pv 2) (pe_lc (own := [("moment", 4), ("office", 5), ("edition", 6)]) rfl sc_first_bounds.nd (pi_seqK K (pv 1)) (blkOk_by (by rfl)) (fun _ _ _ _ _ => (pg_tupK K 3 rfl (pgs_cons (pgn (i := 4) sc_first_bounds.nd) (pgs_cons (pgn (i := 5) sc_first_bounds.nd) (pgs_cons (pgn (i := 6) sc_first_bounds.nd) pgs_nil))))) (fun _ _ _ _ _ => pts_nil) (fun _ _ _ _ _ => (pe_tup (pa_cons (pv 4) (pa_cons (pe_op op_add (pv 6) pe_int) (pa_cons (pe_op op_add (pv 5) pe_int) pa_nil)))))))))), ?_⟩
    refine ⟨_, rfl, _, _, rfl, rfl, _, rfl, by omega, by omega, fun D nD => ?_⟩
    refine lc_mapR ((List.range (N + 1)).map fun b => eBd (0, b, (b : Int))) (by simp) (by omega) nD (fun i e H1 Qy hi he s1 k => ?_) (fun H1 ys s1 e1 d1 => ?_)
    · obtain ⟨b, hb, rfl⟩ := map_get he
      have eb : i = b := by
        rw [List.getElem?_range (by omega)] at hb
        exact Option.some.inj hb
      subst eb
      refine ⟨rfl, _, rfl, _, rfl, (by show 3 ≤ sizeLine; decide), fun t nt => k _ _ (same_upd nt) (tri_mk ?_)⟩
      rw [upd_same]
      show some (HO.tup [V.int 0, V.int (0 + (i : Int)), V.int (0 + (i : Int))]) = _
      rw [Int.zero_add]
      rfl
    · refine ⟨_, rfl, _, rfl, a, rfl, lc_mapS (ha.imp (s1 _ _) (s1 _ _)) (hx.same s1) (fs.map fun f => eBd (f.1, f.2.2 + 1, (f.2.1 : Int) + 1)) (by simp) (by simp; omega) (fun i d e x H2 Qy hd he s2 dx k => ?_) (fun D2 H2 zs nD2 s2 e2 d2 => ?_)⟩
      · obtain ⟨f, hf, rfl⟩ := map_get hd
        obtain ⟨g, hg, rfl⟩ := map_get he
        rw [hf] at hg
        cases hg
        obtain ⟨t, rfl, ht⟩ := find_at dx
        refine ⟨t, _, rfl, SqT.of ht, rfl, _, _, rfl, _, _, rfl, _, _, rfl, rfl, rfl, ?_⟩
        refine ⟨_, rfl, _, rfl, _, _, rfl, rfl, _, rfl, _, _, rfl, rfl, (by show 3 ≤ sizeLine; decide), fun t' nt => k _ _ (same_upd nt) (tri_mk upd_same)⟩
      · have hD1 : H2 D = some (.lst ys) := s2 _ _ e1
        have l1 := d1.len
        have l2 := d2.len
        rw [List.length_map, List.length_range] at l1
        rw [List.length_map] at l2
        refine ⟨D, D2, ys, zs, rfl, rfl, hD1, e2, sizeOk (by omega), fun p np => ?_⟩
        refine q _ _ ((s1.trans s2).trans (same_upd np)) (.lst ((s1.trans s2).free np) upd_same ?_)
        unfold firstBounds
        rw [List.map_append, List.map_map, List.map_map]
        have a1 : ImL H2 ys ((List.range (N + 1)).map fun b => eBd (0, b, (b : Int))) := (d1.free (noLA_map (fun b => noL_bd _) _)).same s2
        have a2 : ImL H2 zs (fs.map fun f => eBd (f.1, f.2.2 + 1, (f.2.1 : Int) + 1)) := d2.free (noLA_map (fun b => noL_bd _) _)
        exact ((DtL.append a1 a2).same (same_upd np)).im
/-! ### denied -/
def spIsDenied : Sp := fun vs H Q _ => ∃ (v u : V) (fs : List Find) (b : Bd), vs = [v, u] ∧ FindsAt H v fs ∧ fs.length ≤ 40 ∧ Im H u (eBd b) ∧ ∀ H', Same H H' → Q (.bl (isDenied fs b)) H'
theorem sc_is_denied : FnScope ["finds", "bound", "moment", "border", "cut", "find"] ["finds", "bound"] (defScope st_is_denied) := ⟨rfl, rfl, rfl, by decide +kernel, rfl, by decide +kernel, by decide +kernel⟩
theorem dec_nat (a b : Nat) : decide (V.int (a : Int) = V.int (b : Int)) = decide (a = b) := by
  by_cases h : a = b
  · rw [decide_eq_true h, decide_eq_true (by rw [h])]
  · have ne : ¬ V.int (a : Int) = V.int (b : Int) := fun z => h (by have := V.int.inj z; omega)
    rw [decide_eq_false h, decide_eq_false ne]
theorem ok_is_denied (T : Txt K mg) : Has P w K mg base 1 "is_denied" ["finds", "bound"] spIsDenied := by
  obtain ⟨fd, F⟩ := T.d_is_denied
  refine ⟨_, fd, F.ok sc_is_denied (fun vs H Q E h => ?_) (fun cdv A outer s H vs Q E hr h => ?_), T.g_is_denied, F.kp, F.bindsN fun _ _ _ _ _ _ us hl => match us, hl with | [_, _], _ => rfl⟩
  · obtain ⟨v, u, fs, b, rfl, _⟩ := h
    rfl
  · obtain ⟨v, u, fs, b, rfl, ⟨a, xs, rfl, ha, hx⟩, hn, hu, q⟩ := h
    obtain ⟨t, rfl, ht⟩ := bd_at hu
    refine ⟨_, PSs.nox (pss_cons (ps_asg (pv 1) (pg_tupK K 3 rfl (pgs_cons (pgn (i := 2) sc_is_denied.nd) (pgs_cons (pgn (i := 3) sc_is_denied.nd) (pgs_cons (pgn (i := 4) sc_is_denied.nd) pgs_nil)))))
    (C8.pss_cut (ps_if (PW.pt (pw_and (pt_cmpR op_eq (pv 2) pe_int (nomark _)) (pw_and1 (pt_cmpR op_gt (pv 4) (pv 3) (nomark _)))))
      (pss_one (ps_ret pe_bl))
      pss_nil)
    (pss_one (ps_ret (pe_callB (cr_anyK K rfl) (by rfl) T.f_any (by decide +kernel) (pa_cons (pe_lc (own := [("find", 5)]) rfl sc_is_denied.nd (pi_seqK K (pv 0)) (blkOk_by (by rfl)) (fun _ _ _ _ _ => (pgn (i := 5) sc_is_denied.nd)) (fun _ _ _ _ _ => pts_nil) (fun _ _ _ _ _ => (pe_and (pe_cmpR op_eq (pe_ix (ix_tupK K) (pv 5) pe_int (fun _ _ => rfl)) (pv 2) (nomark _)) (pe_and (pe_cmpR op_eq (pe_ix (ix_tupK K) (pv 5) pe_int (fun _ _ => rfl)) (pv 3) (nomark _)) (pe_one (pe_cmpR op_gt (pv 4) (pe_ix (ix_tupK K) (pv 5) pe_int (fun _ _ => rfl)) (nomark _))))))) pa_nil)))))), ?_⟩
    refine ⟨_, rfl, t, _, rfl, SqT.of ht, rfl, _, _, rfl, _, _, rfl, _, _, rfl, rfl, ?_⟩
    refine ⟨fun σ' H' => σ' = [some (.ref a), some (.ref t), some (.int b.1), some (.int b.2.1), some (.int b.2.2), none] ∧ H' = H ∧ (decide (b.1 = 0) && decide ((b.2.1 : Int) < b.2.2)) = false, ?_, ?_⟩
    · refine ⟨_, rfl, rfl, decide (b.1 = 0), congrArg V.bl (dec_nat b.1 0), ite2 (fun e1 => ?_) (fun e1 => ?_)⟩
      · refine ⟨_, rfl, _, rfl, _, _, rfl, rfl, decide ((b.2.1 : Int) < b.2.2), rfl, ite2 (fun e2 => ?_) (fun e2 => ?_)⟩
        · have e : isDenied fs b = true := by
            unfold isDenied
            rw [e1, e2]
            rfl
          have q1 := q H (Same.refl H)
          rw [e] at q1
          exact q1
        · exact ⟨rfl, rfl, by rw [e1, Bool.eq_false_iff.mpr e2]; rfl⟩
      · exact iteF ⟨rfl, rfl, by rw [Bool.eq_false_iff.mpr e1]; rfl⟩
    · rintro σ' H' ⟨rfl, rfl, e0⟩
      have eq : ∀ ys : List Bool, ys = fs.map (fun f => decide (f.1 = b.1) && (decide (f.2.2 = b.2.1) && decide ((f.2.1 : Int) < b.2.2))) → ys.any id = isDenied fs b := fun ys h => by
        unfold isDenied
        rw [e0, h, List.any_map]
        rfl
      refine ⟨_, rfl, a, rfl, lc_mapS ha hx (fs.map fun f => PyData.bool (decide (f.1 = b.1) && (decide (f.2.2 = b.2.1) && decide ((f.2.1 : Int) < b.2.2)))) (by simp) (by simp; omega) (fun i d e x H2 Qy hd he s2 dx k => ?_) (fun D H2 ys nD s2 hD dd => ?_)⟩
      · obtain ⟨f, hf, rfl⟩ := map_get hd
        obtain ⟨g, hg, rfl⟩ := map_get he
        rw [hf] at hg
        cases hg
        obtain ⟨c, rfl, hc⟩ := find_at dx
        have k' : Qy (.bl (decide (f.1 = b.1) && (decide (f.2.2 = b.2.1) && decide ((f.2.1 : Int) < b.2.2)))) H2 := k _ _ (Same.refl _) (.bl _)
        refine ⟨rfl, _, rfl, c, _, _, _, rfl, rfl, SqT.of hc, atI_nat (j := 0) rfl, _, rfl, rfl, decide (f.1 = b.1), congrArg V.bl (dec_nat f.1 b.1), ite2 (fun e1 => ?_) (fun e1 => ?_)⟩
        · rw [e1, Bool.true_and] at k'
          refine ⟨_, rfl, c, _, _, _, rfl, rfl, SqT.of hc, atI_nat (j := 2) rfl, _, rfl, rfl, decide (f.2.2 = b.2.1), congrArg V.bl (dec_nat f.2.2 b.2.1), ite2 (fun e2 => ?_) (fun e2 => ?_)⟩
          · rw [e2, Bool.true_and] at k'
            exact ⟨_, rfl, _, rfl, c, _, _, _, rfl, rfl, SqT.of hc, atI_nat (j := 1) rfl, _, _, rfl, rfl, k'⟩
          · rw [Bool.eq_false_iff.mpr e2, Bool.false_and] at k'
            exact k'
        · rw [Bool.eq_false_iff.mpr e1, Bool.false_and] at k'
          exact k'
      · have em : (fs.map fun f => PyData.bool (decide (f.1 = b.1) && (decide (f.2.2 = b.2.1) && decide ((f.2.1 : Int) < b.2.2)))) = (fs.map fun f => (decide (f.1 = b.1) && (decide (f.2.2 = b.2.1) && decide ((f.2.1 : Int) < b.2.2)))).map PyData.bool := by
          rw [List.map_map]
          rfl
        rw [em] at dd
        refine ⟨D, _, rfl, by rw [← dd.bls]; exact SqL.of hD, ?_⟩
        rw [eq _ rfl]
        exact q H2 s2
/-! ### the bounds from a bound -/
theorem app_step {H0 H : Hp} {l t : Addr} {acc : List V} {es : List PyData} {q : Bd} (s : Same H0 H) (nl : H0 l = none) (hl : H l = some (.lst acc)) (d : ImL H acc es) (nt : H t = none) :
    Same H0 (upd (upd H t (.tup [.int q.1, .int q.2.1, .int q.2.2])) l (.lst (acc ++ [.ref t]))) ∧ ImL (upd (upd H t (.tup [.int q.1, .int q.2.1, .int q.2.2])) l (.lst (acc ++ [.ref t]))) (acc ++ [.ref t]) (es ++ [eBd q]) := by
  have s1 := s.trans (same_upd (o := .tup [.int q.1, .int q.2.1, .int q.2.2]) nt)
  have ntl : t ≠ l := fun z => by rw [z, hl] at nt; cases nt
  refine ⟨same_set s1 nl, DtL.append ?_ (.cons (tri_mk ?_) .nil)⟩
  · refine (d.same (same_upd (o := .tup [.int q.1, .int q.2.1, .int q.2.2]) nt)).tups fun a xs e => ?_
    rw [upd_ne (fun z => by rw [z, upd_ne ntl.symm, hl] at e; cases e)]
    exact e
  · rw [upd_ne ntl, upd_same]
def spBoundsFrom : Sp := fun vs H Q _ => ∃ (N : Nat) (v u : V) (dl : Addr) (kvs : List (Key × V)) (L : Addr → Prop) (sts : List Stp) (fs : List Find) (b : Bd), vs = [.int N, v, .ref dl, u] ∧ Dt L H v (.list (sts.map eStp)) ∧ H dl = some (.dK kvs) ∧ LatOk fs kvs ∧ Im H u (eBd b) ∧ b.1 ≤ sts.length ∧
  ∀ H' v', Same H H' → Dt (New H) H' v' (.list ((boundsFrom N sts fs b).map eBd)) → Q v' H'
theorem sc_bounds_from : FnScope ["offices", "steps", "latest", "bound", "found", "moment", "border", "cut"] ["offices", "steps", "latest", "bound"] (defScope st_bounds_from) := ⟨rfl, rfl, rfl, by decide +kernel, rfl, by decide +kernel, by decide +kernel⟩
theorem ok_bounds_from (T : Txt K mg) (D_cut_on : Has P w K mg base 1 "cut_on" ["step", "cut"] spCutOn) (D_cut_back : Has P w K mg base 1 "cut_back" ["step", "cut"] spCutBack) : Has P w K mg base 2 "bounds_from" ["offices", "steps", "latest", "bound"] spBoundsFrom := by
  obtain ⟨fd, F⟩ := T.d_bounds_from
  refine ⟨_, fd, F.ok sc_bounds_from (fun vs H Q E h => ?_) (fun cdv A outer s H vs Q E hr h => ?_), T.g_bounds_from, F.kp, F.bindsN fun _ _ _ _ _ _ us hl => match us, hl with | [_, _, _, _], _ => rfl⟩
  · obtain ⟨N, v, u, dl, kvs, L, sts, fs, b, rfl, _⟩ := h
    rfl
  · obtain ⟨N, v, u, dl, kvs, L, sts, fs, b, rfl, hv, hdl, hlat, hu, hb, q⟩ := h
    obtain ⟨t, rfl, ht⟩ := bd_at hu
    obtain ⟨a, xs, rfl, _, ha, hx'⟩ := hv.lstE
    have hx : ImL H xs (sts.map eStp) := hx'.free (noLA_map noL_stp sts)
    have hlen : xs.length = sts.length := by rw [hx.len, List.length_map]
    obtain ⟨m, bb, c⟩ := b
    dsimp only at hb
    refine ⟨_, PSs.nox (pss_cons (ps_asg (pv 3) (pg_tupK K 3 rfl (pgs_cons (pgn (i := 5) sc_bounds_from.nd) (pgs_cons (pgn (i := 6) sc_bounds_from.nd) (pgs_cons (pgn (i := 7) sc_bounds_from.nd) pgs_nil)))))
    (pss_cons (ps_v (i := 4) sc_bounds_from.nd (pe_lst pa_nil))
    (C8.pss_cut (ps_if (pt_cmpR op_lt (pv 6) (pv 0) (nomark _))
      (C8.pss_cut (ps_if (pt_cmpR op_ge (pe_dget2 (hu_of hr) (pv 2) (pv 6) (pe_un un_neg pe_int) ⟨rfl, rfl, rfl, rfl⟩) (pv 5) (nomark _))
        (pss_one (ps_app (pv 4) (pe_tup (pa_cons (pv 5) (pa_cons (pe_op op_add (pv 6) pe_int) (pa_cons (pe_op op_add (pv 7) pe_int) pa_nil))))))
        pss_nil)
      (pss_one (ps_app (pv 4) (pe_tup (pa_cons (pv 5) (pa_cons (pe_op op_add (pv 6) pe_int) (pa_cons (pv 7) pa_nil)))))))
      pss_nil)
    (C8.pss_cut (ps_if (pt_cmpR op_lt (pv 5) (pe_callB (call_lenK K) (by rfl) T.f_len PySem.boot_len (pa_cons (pv 1) pa_nil)) (nomark _))
      (pss_one (ps_app (pv 4) (pe_tup (pa_cons (pe_op op_add (pv 5) pe_int) (pa_cons (pv 6) (pa_cons (pe_own D_cut_on (hr.mono (by decide)) (pa_cons (pe_ix (ix_listK K) (pv 1) (pv 5) (fun _ _ => rfl)) (pa_cons (pv 7) pa_nil))) pa_nil))))))
      pss_nil)
    (C8.pss_cut (ps_if (pt_cmpR op_gt (pv 5) pe_int (nomark _))
      (pss_one (ps_app (pv 4) (pe_tup (pa_cons (pe_op op_sub (pv 5) pe_int) (pa_cons (pv 6) (pa_cons (pe_own D_cut_back (hr.mono (by decide)) (pa_cons (pe_ix (ix_listK K) (pv 1) (pe_op op_sub (pv 5) pe_int) (fun _ _ => rfl)) (pa_cons (pv 7) pa_nil))) pa_nil))))))
      pss_nil)
    (pss_one (ps_ret (pv 4)))))))), ?_⟩
    refine ⟨_, rfl, t, _, rfl, SqT.of ht, rfl, _, _, rfl, _, _, rfl, _, _, rfl, rfl, ?_⟩
    refine ⟨Nat.zero_le _, fun l nl => ?_⟩
    -- the state behind each part: the list so far
    let S : L2.St := [some (.int N), some (.ref a), some (.ref dl), some (.ref t), some (.ref l), some (.int m), some (.int bb), some (.int c)]
    let G : List Bd → Hp → Prop := fun es H' => ∃ acc, Same H H' ∧ H' l = some (.lst acc) ∧ ImL H' acc (es.map eBd)
    have gapp : ∀ (es : List Bd) (H' : Hp) (acc : List V) (p : Addr) (x y z : Int) (b' : Bd), x = b'.1 → y = b'.2.1 → z = b'.2.2 → Same H H' → H' l = some (.lst acc) → ImL H' acc (es.map eBd) → H' p = none → G (es ++ [b']) (upd (upd H' p (.tup [.int x, .int y, .int z])) l (.lst (acc ++ [.ref p]))) := by
      rintro es H' acc p x y z b' rfl rfl rfl s1 h1 d1 np
      obtain ⟨s2, d2⟩ := app_step (q := b') s1 nl h1 d1 np
      exact ⟨acc ++ [.ref p], s2, upd_same, by rw [List.map_append]; exact d2⟩
    refine ⟨fun σ' H' => σ' = S ∧ G (fromUp N fs m bb c) H', ?_, ?_⟩
    · refine ⟨_, rfl, _, rfl, _, _, rfl, rfl, decide ((bb : Int) < (N : Int)), rfl, ite2 (fun e1 => ?_) (fun e1 => ?_)⟩
      · have hbN : bb < N := by
          have := of_decide_eq_true e1
          omega
        have eU : fromUp N fs m bb c = (if shown fs bb m = true then [(m, bb + 1, c + 1)] else []) ++ [(m, bb + 1, c)] := if_pos hbN
        obtain ⟨z, hz, hsh⟩ := hlat.get bb m
        refine ⟨fun σ' H' => σ' = S ∧ G (if shown fs bb m = true then [(m, bb + 1, c + 1)] else []) H', ?_, ?_⟩
        · refine ⟨_, rfl, dl, rfl, .inl ⟨kvs, .inl ?_⟩, _, rfl, _, rfl, _, DGet.k (k := .inl (bb : Int)) ?_, _, rfl, z, _, hz, rfl, decide ((m : Int) ≤ z), rfl, ite2 (fun e2 => ?_) (fun e2 => ?_)⟩
          · exact same_upd nl _ _ hdl
          · exact same_upd nl _ _ hdl
          · have es := hsh.mp (of_decide_eq_true e2)
            refine ⟨_, rfl, .inl ⟨rfl, _, SqL.of upd_same⟩, _, rfl, _, rfl, _, _, rfl, rfl, _, rfl, _, _, rfl, rfl, (by show 3 ≤ sizeLine; decide), fun p np => ?_⟩
            have npl : l ≠ p := fun z => by rw [← z, upd_same] at np; cases np
            refine ⟨l, [], _, rfl, rfl, (upd_ne npl).trans upd_same, Nat.lt_of_lt_of_le (by decide) (Nat.le_refl _), rfl, ?_⟩
            rw [if_pos es]
            exact gapp [] _ [] p _ _ _ (m, bb + 1, c + 1) rfl rfl rfl (same_upd nl) upd_same .nil np
          · have es : ¬ shown fs bb m = true := fun z => e2 (decide_eq_true (hsh.mpr z))
            refine ⟨rfl, ?_⟩
            rw [if_neg es]
            exact ⟨[], same_upd nl, upd_same, .nil⟩
        · rintro σ' H' ⟨rfl, acc, s1, h1, d1⟩
          refine ⟨_, rfl, .inl ⟨rfl, _, SqL.of h1⟩, _, rfl, _, rfl, _, _, rfl, rfl, _, rfl, (by show 3 ≤ sizeLine; decide), fun p np => ?_⟩
          have npl : l ≠ p := fun z => by rw [← z, h1] at np; cases np
          have hacc : acc.length ≤ 1 := by
            rw [d1.len, List.length_map]
            split <;> simp
          refine ⟨l, acc, _, rfl, rfl, (upd_ne npl).trans h1, sizeLt (by omega), rfl, ?_⟩
          rw [eU]
          exact gapp _ _ acc p _ _ _ (m, bb + 1, c) rfl rfl rfl s1 h1 d1 np
      · have hbN : ¬ bb < N := fun z => e1 (decide_eq_true (by omega))
        refine ⟨rfl, ?_⟩
        have eU : fromUp N fs m bb c = [] := if_neg hbN
        rw [eU]
        exact ⟨[], same_upd nl, upd_same, .nil⟩
    · rintro σ' H1 ⟨rfl, acc, s1, h1, d1⟩
      have u1 : (fromUp N fs m bb c).length ≤ 2 := by
        unfold fromUp
        split
        · split <;> simp
        · simp
      have l1 := d1.len
      rw [List.length_map] at l1
      refine ⟨fun σ' H' => σ' = S ∧ G (fromUp N fs m bb c ++ fromOn sts m bb c) H', ?_, ?_⟩
      · refine ⟨_, rfl, _, rfl, a, xs, rfl, .inl (SqL.of (s1 _ _ ha)), _, _, rfl, rfl, decide ((m : Int) < (xs.length : Int)), rfl, ite2 (fun e1 => ?_) (fun e1 => ?_)⟩
        · have hm : m < sts.length := by
            have := of_decide_eq_true e1
            omega
          obtain ⟨v1, hv1, dv1⟩ := (hx.same s1).get (i := m) (d := eStp sts[m]) (by rw [List.getElem?_map, List.getElem?_eq_getElem hm]; rfl)
          refine ⟨_, rfl, .inl ⟨rfl, _, SqL.of h1⟩, _, rfl, _, _, rfl, rfl, _, rfl, _, rfl, _, rfl, a, xs, _, _, rfl, rfl, SqL.of (s1 _ _ ha), atI_nat hv1, _, rfl, v1, sts[m], c, rfl, dv1, (by show 3 ≤ sizeLine; decide), fun p np => ?_⟩
          have npl : l ≠ p := fun z => by rw [← z, h1] at np; cases np
          refine ⟨l, acc, _, rfl, rfl, (upd_ne npl).trans h1, sizeLt (by omega), rfl, ?_⟩
          have eO : fromOn sts m bb c = [(m + 1, bb, cutOn sts[m] c)] := by
            unfold fromOn
            rw [List.getElem?_eq_getElem hm]
          rw [eO]
          exact gapp _ _ acc p _ _ _ (m + 1, bb, cutOn sts[m] c) rfl rfl rfl s1 h1 d1 np
        · have hm : ¬ m < sts.length := fun z => e1 (decide_eq_true (by omega))
          have eO : fromOn sts m bb c = [] := by
            unfold fromOn
            rw [List.getElem?_eq_none (by omega)]
          refine ⟨rfl, ?_⟩
          rw [eO, List.append_nil]
          exact ⟨acc, s1, h1, d1⟩
      · rintro σ' H2 ⟨rfl, acc2, s2, h2, d2⟩
        have u2 : (fromOn sts m bb c).length ≤ 1 := by
          unfold fromOn
          split <;> simp
        have l2 := d2.len
        rw [List.length_map, List.length_append] at l2
        refine ⟨fun σ' H' => σ' = S ∧ G (boundsFrom N sts fs (m, bb, c)) H', ?_, ?_⟩
        · refine ⟨_, rfl, _, _, rfl, rfl, decide ((0 : Int) < (m : Int)), rfl, ite2 (fun e1 => ?_) (fun e1 => ?_)⟩
          · have hm0 : 0 < m := by
              have := of_decide_eq_true e1
              omega
            have hm : m - 1 < sts.length := by omega
            have em : (m : Int) - 1 = ((m - 1 : Nat) : Int) := by omega
            obtain ⟨v1, hv1, dv1⟩ := (hx.same s2).get (i := m - 1) (d := eStp sts[m - 1]) (by rw [List.getElem?_map, List.getElem?_eq_getElem hm]; rfl)
            refine ⟨_, rfl, .inl ⟨rfl, _, SqL.of h2⟩, _, rfl, _, _, rfl, rfl, _, rfl, _, rfl, _, rfl, _, _, rfl, rfl, a, xs, _, _, rfl, rfl, SqL.of (s2 _ _ ha), at_of em hv1, _, rfl, v1, sts[m - 1], c, rfl, dv1, (by show 3 ≤ sizeLine; decide), fun p np => ?_⟩
            have npl : l ≠ p := fun z => by rw [← z, h2] at np; cases np
            refine ⟨l, acc2, _, rfl, rfl, (upd_ne npl).trans h2, sizeLt (by omega), rfl, ?_⟩
            have eO : boundsFrom N sts fs (m, bb, c) = (fromUp N fs m bb c ++ fromOn sts m bb c) ++ [(m - 1, bb, cutBack sts[m - 1] c)] := by
              unfold boundsFrom fromBack
              rw [if_neg (show ¬ m = 0 by omega)]
              dsimp only
              rw [List.getElem?_eq_getElem hm, List.append_assoc]
            rw [eO]
            exact gapp _ _ acc2 p _ _ _ (m - 1, bb, cutBack sts[m - 1] c) em rfl rfl s2 h2 d2 np
          · have hm0 : m = 0 := by
              have : ¬ (0 : Int) < (m : Int) := fun z => e1 (decide_eq_true z)
              omega
            have eO : boundsFrom N sts fs (m, bb, c) = fromUp N fs m bb c ++ fromOn sts m bb c := by
              unfold boundsFrom fromBack
              rw [if_pos hm0, List.append_nil]
            refine ⟨rfl, ?_⟩
            rw [eO]
            exact ⟨acc2, s2, h2, d2⟩
        · rintro σ' H3 ⟨rfl, acc3, s3, h3, d3⟩
          exact ⟨_, rfl, q H3 _ s3 (.lst nl h3 d3.im)⟩
end
end K41
/-! K41W5: the family in the heap; put. -/
namespace K41
open PySem PySem.Spec PyProof.Rows L2
/-- where the parts of a family stand -/
structure FD where
  dx : Addr
  as_ : Addr
  af : Addr
  al : Addr
  ac : Addr
  am : Addr
  aw : Addr
  rows : List Addr
  kvs : List (Key × V)
  came : List (List Key × V)
  vd : V
  ws : List V
def FD.ins (d : FD) (N : Nat) : List (Str × V) := [("offices", .int N), ("steps", .ref d.as_), ("finds", .ref d.af), ("latest", .ref d.al), ("cuts", .ref d.ac), ("came", .ref d.am), ("denied", d.vd), ("waiting", .ref d.aw)]
def rowV (N : Nat) (C : Nat → Int) : List V := (List.range (N + 1)).map fun b => V.int (C b)
theorem rowV_len (N : Nat) (C : Nat → Int) : (rowV N C).length = N + 1 := by
  unfold rowV
  rw [List.length_map, List.length_range]
theorem rowV_get {N : Nat} {C : Nat → Int} {b : Nat} (h : b ≤ N) : (rowV N C)[b]? = some (.int (C b)) := by
  unfold rowV
  rw [List.getElem?_map, List.getElem?_range (by omega)]
  rfl
theorem rowV_set {N : Nat} {C : Nat → Int} {b : Nat} (c : Int) : (rowV N C).set b (.int c) = rowV N (fun j => if j = b then c else C j) := by
  apply List.ext_getElem?
  intro i
  unfold rowV
  rw [List.getElem?_set, List.getElem?_map, List.getElem?_map]
  by_cases h : i < N + 1
  · rw [List.getElem?_range h]
    by_cases e : b = i
    · subst e
      rw [if_pos rfl, if_pos (by rw [List.length_map, List.length_range]; exact h)]
      show _ = some (V.int (if b = b then c else C b))
      rw [if_pos rfl]
    · rw [if_neg e]
      show some (V.int (C i)) = some (V.int (if i = b then c else C i))
      rw [if_neg (fun z => e z.symm)]
  · rw [List.getElem?_eq_none (by rw [List.length_range]; omega)]
    by_cases e : b = i
    · subst e
      rw [if_pos rfl, if_neg (by rw [List.length_map, List.length_range]; exact h)]
      rfl
    · rw [if_neg e]
      rfl
structure FamAt (K : PySem.W.Frag) (H0 H : Hp) (f : Addr) (N : Nat) (sts : List Stp) (fs : List Find) (s : FS) (d : FD) : Prop where
  same : Same H0 H
  nf : H0 f = none
  ins : H f = some (.ins (He.ga K "Family") d.dx (d.ins N))
  steps : ∃ xs, H0 d.as_ = some (.lst xs) ∧ ImL H0 xs (sts.map eStp)
  finds : FindsAt H0 (.ref d.af) fs
  lat : H d.al = some (.dK d.kvs)
  latok : LatOk fs d.kvs
  nac : H0 d.ac = none
  cuts : H d.ac = some (.lst (d.rows.map V.ref))
  rlen : d.rows.length = sts.length + 1
  row : ∀ m r, d.rows[m]? = some r → H0 r = none ∧ H r = some (.lst (rowV N (s.C m)))
  rnd : d.rows.Nodup
  nam : H0 d.am = none
  came : H d.am = some (.dT d.came)
  naw : H0 d.aw = none
  wait : H d.aw = some (.lst d.ws)
  acw : d.ac ≠ d.aw
  bds : ImL H d.ws (s.wait.map eBd)
  den : match s.den with
    | none => d.vd = .non
    | some q => Im H d.vd (eBd q)
  csz : d.came.length + pot sts.length N s.C ≤ 100000
  wsz : d.ws.length + pot sts.length N s.C ≤ 100000
section
variable {K : PySem.W.Frag} {H0 H H' : Hp} {f : Addr} {N : Nat} {sts : List Stp} {fs : List Find} {s : FS} {d : FD}
theorem FamAt.grow (F : FamAt K H0 H f N sts fs s d) (g : Same H H') : FamAt K H0 H' f N sts fs s d where
  same := F.same.trans g
  nf := F.nf
  ins := g _ _ F.ins
  steps := F.steps
  finds := F.finds
  lat := g _ _ F.lat
  latok := F.latok
  nac := F.nac
  cuts := g _ _ F.cuts
  rlen := F.rlen
  row := fun m r h => ⟨(F.row m r h).1, g _ _ (F.row m r h).2⟩
  rnd := F.rnd
  nam := F.nam
  came := g _ _ F.came
  naw := F.naw
  wait := g _ _ F.wait
  acw := F.acw
  bds := F.bds.same g
  den := by
    have h := F.den
    cases e : s.den with
    | none =>
      rw [e] at h
      exact h
    | some q =>
      rw [e] at h
      exact h.same g
  csz := F.csz
  wsz := F.wsz
/-- a list of numbers and one of objects -/
theorem row_ne (N : Nat) (C : Nat → Int) (as : List Addr) : HO.lst (rowV N C) ≠ HO.lst (as.map V.ref) := by
  intro h
  have h' : rowV N C = as.map V.ref := HO.lst.inj h
  have h2 : (rowV N C)[0]? = (as.map V.ref)[0]? := by rw [h']
  rw [rowV_get (Nat.zero_le _)] at h2
  cases as with
  | nil => cases h2
  | cons a l => cases h2
theorem bds_refs {H : Hp} : ∀ {ws : List V} {bs : List Bd}, ImL H ws (bs.map eBd) → ∃ as : List Addr, ws = as.map V.ref
  | [], [], _ => ⟨[], rfl⟩
  | w :: ws, b :: bs, h => by
    cases h with
    | cons h t =>
      obtain ⟨as, rfl⟩ := bds_refs t
      obtain ⟨a, rfl, _⟩ := bd_at h
      exact ⟨a :: as, rfl⟩
theorem FamAt.rowNe (F : FamAt K H0 H f N sts fs s d) {m : Nat} {r : Addr} (h : d.rows[m]? = some r) : r ≠ f ∧ r ≠ d.al ∧ r ≠ d.ac ∧ r ≠ d.am ∧ r ≠ d.aw := by
  obtain ⟨_, hr⟩ := F.row m r h
  refine ⟨ne_of hr F.ins (by intro z; cases z), ne_of hr F.lat (by intro z; cases z), ne_of hr F.cuts (row_ne N _ _), ne_of hr F.came (by intro z; cases z), ?_⟩
  obtain ⟨as, e⟩ := bds_refs F.bds
  refine ne_of hr F.wait ?_
  rw [e]
  exact row_ne N _ _
/-- an address apart from all that a put writes -/
def Out (f : Addr) (d : FD) (b : Addr) : Prop := b ≠ f ∧ b ≠ d.am ∧ b ≠ d.aw ∧ b ∉ d.rows
theorem FamAt.out_new (F : FamAt K H0 H f N sts fs s d) {p : Addr} (h : H p = none) : Out f d p := by
  refine ⟨(ne_of_none F.ins h).symm, (ne_of_none F.came h).symm, (ne_of_none F.wait h).symm, fun hm => ?_⟩
  obtain ⟨m, hm⟩ := List.getElem?_of_mem hm
  exact ne_of_none (F.row m p hm).2 h rfl
theorem FamAt.out_old (F : FamAt K H0 H f N sts fs s d) {p : Addr} {o : HO} (h : H0 p = some o) : Out f d p := by
  refine ⟨ne_of_none h F.nf, ne_of_none h F.nam, ne_of_none h F.naw, fun hm => ?_⟩
  obtain ⟨m, hm⟩ := List.getElem?_of_mem hm
  exact ne_of_none h (F.row m p hm).1 rfl
theorem FamAt.out_tup (F : FamAt K H0 H f N sts fs s d) {p : Addr} {xs : List V} (h : H p = some (.tup xs)) : Out f d p := by
  refine ⟨ne_of h F.ins (by intro z; cases z), ne_of h F.came (by intro z; cases z), ne_of h F.wait (by intro z; cases z), fun hm => ?_⟩
  obtain ⟨m, hm⟩ := List.getElem?_of_mem hm
  exact ne_of h (F.row m p hm).2 (by intro z; cases z) rfl
/-- what a put leaves -/
def Kept (f : Addr) (d : FD) (H H' : Hp) : Prop := ∀ b o, Out f d b → H b = some o → H' b = some o
theorem Kept.trans {H1 H2 H3 : Hp} (a : Kept f d H1 H2) (b : Kept f d H2 H3) : Kept f d H1 H3 := fun c o n e => b c o n (a c o n e)
theorem Kept.of (g : Same H H') : Kept f d H H' := fun b o _ e => g b o e
theorem Kept.refl : Kept f d H H := fun _ _ _ e => e
/-- the places that stay -/
structure SameD (d d' : FD) : Prop where
  dx : d'.dx = d.dx
  as_ : d'.as_ = d.as_
  af : d'.af = d.af
  al : d'.al = d.al
  ac : d'.ac = d.ac
  am : d'.am = d.am
  aw : d'.aw = d.aw
  rows : d'.rows = d.rows
  kvs : d'.kvs = d.kvs
theorem SameD.refl (d : FD) : SameD d d := ⟨rfl, rfl, rfl, rfl, rfl, rfl, rfl, rfl, rfl⟩
theorem SameD.trans {d d' d'' : FD} (a : SameD d d') (b : SameD d' d'') : SameD d d'' :=
  ⟨b.dx.trans a.dx, b.as_.trans a.as_, b.af.trans a.af, b.al.trans a.al, b.ac.trans a.ac, b.am.trans a.am, b.aw.trans a.aw, b.rows.trans a.rows, b.kvs.trans a.kvs⟩
theorem SameD.out {d d' : FD} (a : SameD d d') {b : Addr} (h : Out f d b) : Out f d' b := by
  unfold Out
  rw [a.am, a.aw, a.rows]
  exact h
theorem SameD.outB {d d' : FD} (a : SameD d d') {b : Addr} (h : Out f d' b) : Out f d b := by
  unfold Out at h
  rw [a.am, a.aw, a.rows] at h
  exact h
theorem SameD.kept {d d' : FD} (a : SameD d d') {H1 H2 : Hp} (h : Kept f d' H1 H2) : Kept f d H1 H2 := fun b o n e => h b o (a.out n) e
/-- the heap behind the three stores of a put -/
def putH (H : Hp) (d : FD) (r : Addr) (row : List V) (key : List Key) (va vb : V) : Hp :=
  upd (upd (upd H r (.lst row)) d.am (.dT (putK d.came key va))) d.aw (.lst (d.ws ++ [vb]))
theorem FamAt.stored (F : FamAt K H0 H f N sts fs s d) (hd : s.den = none) {q : Bd} {vb va : V} (hb : Im H vb (eBd q)) (hr : InR N sts.length q) (hlt : s.C q.1 q.2.1 < q.2.2) (key : List Key) {r : Addr} (er : d.rows[q.1]? = some r) :
    FamAt K H0 (putH H d r (rowV N fun b => if b = q.2.1 then q.2.2 else s.C q.1 b) key va vb) f N sts fs ⟨fun m b => if m = q.1 ∧ b = q.2.1 then q.2.2 else s.C m b, s.wait ++ [q], none⟩ { d with came := putK d.came key va, ws := d.ws ++ [vb] } ∧
      Kept f d H (putH H d r (rowV N fun b => if b = q.2.1 then q.2.2 else s.C q.1 b) key va vb) := by
  obtain ⟨rf, ral, rac, ram, raw⟩ := F.rowNe er
  have amf : d.am ≠ f := ne_of F.came F.ins (by intro z; cases z)
  have amal : d.am ≠ d.al := ne_of F.came F.lat (by intro z; cases z)
  have amac : d.am ≠ d.ac := ne_of F.came F.cuts (by intro z; cases z)
  have amaw : d.am ≠ d.aw := ne_of F.came F.wait (by intro z; cases z)
  have awf : d.aw ≠ f := ne_of F.wait F.ins (by intro z; cases z)
  have awal : d.aw ≠ d.al := ne_of F.wait F.lat (by intro z; cases z)
  have hrow : ∀ m r', d.rows[m]? = some r' → r' ≠ d.am ∧ r' ≠ d.aw := fun m r' e => ⟨(F.rowNe e).2.2.2.1, (F.rowNe e).2.2.2.2⟩
  have far : ∀ b, b ≠ r → b ≠ d.am → b ≠ d.aw → (putH H d r (rowV N fun b => if b = q.2.1 then q.2.2 else s.C q.1 b) key va vb) b = H b := fun b h1 h2 h3 => by
    unfold putH
    rw [upd_ne h3, upd_ne h2, upd_ne h1]
  have rmem : r ∈ d.rows := List.mem_of_getElem? er
  have kept : Kept f d H (putH H d r (rowV N fun b => if b = q.2.1 then q.2.2 else s.C q.1 b) key va vb) := fun b o n e => by
    rw [far b (fun z => n.2.2.2 (by rw [z]; exact rmem)) n.2.1 n.2.2.1]
    exact e
  have tups : ∀ a xs, H a = some (.tup xs) → (putH H d r (rowV N fun b => if b = q.2.1 then q.2.2 else s.C q.1 b) key va vb) a = some (.tup xs) := fun a xs e => kept a _ (F.out_tup e) e
  have P : pot sts.length N (fun m b => if m = q.1 ∧ b = q.2.1 then q.2.2 else s.C m b) < pot sts.length N s.C := by
    have := put_pot (fs := fs) (s := s) hr
    refine pot_lt (m := q.1) (b := q.2.1) (fun m b => ?_) hr.1 hr.2.1 ?_ ?_
    · split
      · rename_i e
        obtain ⟨rfl, rfl⟩ := e
        omega
      · exact Int.le_refl _
    · rw [if_pos ⟨rfl, rfl⟩]
      exact hlt
    · rw [if_pos ⟨rfl, rfl⟩]
      exact hr.2.2
  refine ⟨⟨fun b o e => kept b o (F.out_old e) (F.same _ _ e), F.nf, ?_, F.steps, F.finds, ?_, F.latok, F.nac, ?_, F.rlen, fun m r' e => ⟨(F.row m r' e).1, ?_⟩, F.rnd, F.nam, ?_, F.naw, ?_, F.acw, ?_, ?_, ?_, ?_⟩, kept⟩
  · rw [far f rf.symm amf.symm awf.symm]
    exact F.ins
  · rw [far _ ral.symm amal.symm awal.symm]
    exact F.lat
  · rw [far _ rac.symm amac.symm F.acw]
    exact F.cuts
  · by_cases em : m = q.1
    · subst em
      rw [er] at e
      cases e
      show upd (upd (upd H r _) d.am _) d.aw _ r = _
      rw [upd_ne raw, upd_ne ram, upd_same]
      have ef : (fun b => if b = q.2.1 then q.2.2 else s.C q.1 b) = fun b => if q.1 = q.1 ∧ b = q.2.1 then q.2.2 else s.C q.1 b := by
        funext b
        by_cases h : b = q.2.1
        · rw [if_pos h, if_pos ⟨rfl, h⟩]
        · rw [if_neg h, if_neg (fun z => h z.2)]
      rw [ef]
    · have ne : r' ≠ r := fun z => em (nd_ix F.rnd e (by rw [z]; exact er))
      rw [far r' ne (hrow m r' e).1 (hrow m r' e).2, (F.row m r' e).2]
      have ef : s.C m = fun b => if m = q.1 ∧ b = q.2.1 then q.2.2 else s.C m b := by
        funext b
        rw [if_neg (fun z => em z.1)]
      exact congrArg (fun g => some (HO.lst (rowV N g))) ef
  · show upd (upd (upd H r _) d.am _) d.aw _ d.am = _
    rw [upd_ne amaw, upd_same]
  · show upd (upd (upd H r _) d.am _) d.aw _ d.aw = _
    rw [upd_same]
  · rw [List.map_append]
    exact (F.bds.tups tups).append (.cons (hb.tups tups) .nil)
  · have h := F.den
    rw [hd] at h
    exact h
  · have h1 := F.csz
    have h2 := length_putK d.came key va
    show (putK d.came key va).length + pot sts.length N (fun m b => if m = q.1 ∧ b = q.2.1 then q.2.2 else s.C m b) ≤ _
    omega
  · have h1 := F.wsz
    show (d.ws ++ [vb]).length + pot sts.length N (fun m b => if m = q.1 ∧ b = q.2.1 then q.2.2 else s.C m b) ≤ _
    rw [List.length_append, List.length_singleton]
    omega
/-- the bound is denied -/
theorem FamAt.denied (F : FamAt K H0 H f N sts fs s d) {q : Bd} {vb : V} (hb : Im H vb (eBd q)) : FamAt K H0 (upd H f (.ins (He.ga K "Family") d.dx (putF "denied" vb (d.ins N)))) f N sts fs ⟨s.C, s.wait, some q⟩ { d with vd := vb } ∧
    Kept f d H (upd H f (.ins (He.ga K "Family") d.dx (putF "denied" vb (d.ins N)))) := by
  have kept : Kept f d H (upd H f (.ins (He.ga K "Family") d.dx (putF "denied" vb (d.ins N)))) := fun b o n e => by
    rw [upd_ne n.1]
    exact e
  have tups : ∀ a xs, H a = some (.tup xs) → (upd H f (.ins (He.ga K "Family") d.dx (putF "denied" vb (d.ins N)))) a = some (.tup xs) := fun a xs e => kept a _ (F.out_tup e) e
  refine ⟨⟨fun b o e => kept b o (F.out_old e) (F.same _ _ e), F.nf, ?_, F.steps, F.finds, ?_, F.latok, F.nac, ?_, F.rlen, fun m r' e => ⟨(F.row m r' e).1, ?_⟩, F.rnd, F.nam, ?_, F.naw, ?_, F.acw, F.bds.tups tups, hb.tups tups, F.csz, F.wsz⟩, kept⟩
  · rw [upd_same]
    rfl
  · rw [upd_ne (ne_of F.lat F.ins (by intro z; cases z))]
    exact F.lat
  · rw [upd_ne (ne_of F.cuts F.ins (by intro z; cases z))]
    exact F.cuts
  · rw [upd_ne (F.rowNe e).1]
    exact (F.row m r' e).2
  · rw [upd_ne (ne_of F.came F.ins (by intro z; cases z))]
    exact F.came
  · rw [upd_ne (ne_of F.wait F.ins (by intro z; cases z))]
    exact F.wait
end
section
variable {P : Program} {w : World} {K : PySem.W.Frag} {mg : Str → Option Value} {base : Heap}
def spPut (K : PySem.W.Frag) : Sp := fun vs H Q _ => ∃ (f : Addr) (vb va : V) (H0 : Hp) (N : Nat) (sts : List Stp) (fs : List Find) (s : FS) (d : FD) (q : Bd), vs = [.ref f, vb, va] ∧ FamAt K H0 H f N sts fs s d ∧ Im H vb (eBd q) ∧ InR N sts.length q ∧ fs.length ≤ 40 ∧
  ∀ H' d', FamAt K H0 H' f N sts fs (put fs s q) d' → SameD d d' → Kept f d H H' → Q .non H'
theorem sc_Family_put : FnScope ["self", "bound", "ahead", "moment", "border", "cut"] ["self", "bound", "ahead"] (defScope st_Family_put) := ⟨rfl, rfl, rfl, by decide +kernel, rfl, by decide +kernel, by decide +kernel⟩
theorem ixN_nat {n b : Nat} (h : b < n) : ixN n (b : Int) = some b := by
  unfold ixN
  rw [if_pos (by omega), if_pos (by omega)]
  rfl
theorem ok_put (T : Txt K mg) (D_is_denied : Has P w K mg base 1 "is_denied" ["finds", "bound"] spIsDenied) : HasM P w K mg base 2 (He.ga K "Family") "put" ["self", "bound", "ahead"] (spPut K) := by
  obtain ⟨fd, F⟩ := T.d_Family_put
  refine ⟨_, fd, F.ok sc_Family_put (fun vs H Q E h => ?_) (fun cdv A outer s H vs Q E hr h => ?_), T.m_put, F.bindsN fun _ _ _ _ _ _ us hl => match us, hl with | [_, _, _], _ => rfl⟩
  · obtain ⟨f, vb, va, _, _, _, _, _, _, _, rfl, _⟩ := h
    rfl
  · obtain ⟨f, vb, va, H0, N, sts, fs, st, d, b, rfl, G, hb, hin, hfn, q⟩ := h
    obtain ⟨t, rfl, ht⟩ := bd_at hb
    refine ⟨_, PSs.nox (pss_cons (ps_asg (pv 1) (pg_tupK K 3 rfl (pgs_cons (pgn (i := 3) sc_Family_put.nd) (pgs_cons (pgn (i := 4) sc_Family_put.nd) (pgs_cons (pgn (i := 5) sc_Family_put.nd) pgs_nil)))))
    (pss_one (ps_if (PW.pt (pw_and (pt_cmp (pc_isN (pe_fldK K (pv 0) rfl)) rfl) (pw_and1 (pt_cmpR op_gt (pv 5) (pe_ix (ix_listK K) (pe_ix (ix_listK K) (pe_fldK K (pv 0) rfl) (pv 3) (fun _ _ => rfl)) (pv 4) (fun _ _ => rfl)) (nomark _)))))
      (pss_cons (ps_asg (pv 5) (pg_sub (pe_ix (ix_listK K) (pe_fldK K (pv 0) rfl) (pv 3) (fun _ _ => rfl)) (pv 4) set_list))
      (pss_cons (ps_dput (hu_of hr) (pe_fldK K (pv 0) rfl) (pv 1) (pv 2) rfl)
      (pss_cons (ps_app (pe_fldK K (pv 0) rfl) (pv 1))
      (pss_one (ps_if (pt_val (pe_own D_is_denied (hr.mono (by decide)) (pa_cons (pe_fldK K (pv 0) rfl) (pa_cons (pv 1) pa_nil))))
        (pss_one (ps_fld (pv 0) (pv 1) rfl))
        pss_nil)))))
      pss_nil))), ?_⟩
    refine ⟨_, rfl, t, _, rfl, SqT.of ht, rfl, _, _, rfl, _, _, rfl, _, _, rfl, rfl, ?_⟩
    have hden := G.den
    refine ⟨_, rfl, f, _, d.dx, _, _, rfl, G.ins, T.c_Family, T.n_Family_denied, rfl, _, rfl, ite2 (fun e1 => ?_) (fun e1 => ?_)⟩
    · have e1' : d.vd = .non := of_decide_eq_true e1
      have sden : st.den = none := by
        cases e : st.den with
        | none => rfl
        | some q' =>
          rw [e, e1'] at hden
          obtain ⟨_, z, _⟩ := bd_at hden
          cases z
      have hm : b.1 < d.rows.length := by
        rw [G.rlen]
        exact Nat.lt_succ_of_le hin.1
      have er : d.rows[b.1]? = some d.rows[b.1] := List.getElem?_eq_getElem hm
      generalize hr' : d.rows[b.1] = r at er
      have hrow := (G.row b.1 r er).2
      have er2 : (d.rows.map V.ref)[b.1]? = some (.ref r) := by
        rw [List.getElem?_map, er]
        rfl
      refine ⟨_, rfl, _, rfl, f, _, d.dx, _, _, rfl, G.ins, T.c_Family, T.n_Family_cuts, rfl, _, rfl, d.ac, _, _, _, rfl, rfl, SqL.of G.cuts, atI_nat er2, _, rfl, r, _, _, _, rfl, rfl, SqL.of hrow, atI_nat (rowV_get hin.2.1), _, _, rfl, rfl, _, rfl, ite2 (fun e2 => ?_) (fun e2 => ?_)⟩
      · have hlt : st.C b.1 b.2.1 < b.2.2 := of_decide_eq_true e2
        obtain ⟨G1, k1⟩ := G.stored sden hb hin hlt [.inl (b.1 : Int), .inl (b.2.1 : Int), .inl b.2.2] (va := va) er
        obtain ⟨rf, ral, rac, ram, raw⟩ := G.rowNe er
        have hc1 := G.csz
        have hw1 := G.wsz
        have amf : d.am ≠ f := ne_of G.came G.ins (by intro z; cases z)
        have amaw : d.am ≠ d.aw := ne_of G.came G.wait (by intro z; cases z)
        have tr : t ≠ r := ne_of ht hrow (by intro z; cases z)
        have tam : t ≠ d.am := ne_of ht G.came (by intro z; cases z)
        -- self.cuts[moment][border] = cut
        refine ⟨_, rfl, _, rfl, f, _, d.dx, _, _, rfl, G.ins, T.c_Family, T.n_Family_cuts, rfl, _, rfl, d.ac, _, _, _, rfl, rfl, SqL.of G.cuts, atI_nat er2, _, rfl, r, _, _, b.2.1, rfl, rfl, hrow, ixN_nat (by rw [rowV_len]; exact Nat.lt_succ_of_le hin.2.1), ?_⟩
        rw [rowV_set]
        -- self.came[bound] = ahead
        refine ⟨_, rfl, _, rfl, f, _, d.dx, _, _, rfl, (upd_ne rf.symm).trans G.ins, T.c_Family, T.n_Family_came, rfl, _, rfl, d.am, _, rfl, DPut.t (k := [.inl (b.1 : Int), .inl (b.2.1 : Int), .inl b.2.2]) ((upd_ne ram.symm).trans G.came) ((upd_ne tr).trans ht) (sizeLt (by omega)), ?_⟩
        -- self.waiting.append(bound)
        refine ⟨_, rfl, f, _, d.dx, _, _, rfl, (upd_ne amf.symm).trans ((upd_ne rf.symm).trans G.ins), T.c_Family, T.n_Family_waiting, rfl, .inl ⟨rfl, _, SqL.of ((upd_ne amaw.symm).trans ((upd_ne raw.symm).trans G.wait))⟩, _, rfl, d.aw, d.ws, _, rfl, rfl, (upd_ne amaw.symm).trans ((upd_ne raw.symm).trans G.wait), sizeLt (by omega), ?_⟩
        have hb1 : Im (putH H d r (rowV N fun j => if j = b.2.1 then b.2.2 else st.C b.1 j) [.inl (b.1 : Int), .inl (b.2.1 : Int), .inl b.2.2] va (.ref t)) (.ref t) (eBd b) := hb.tups fun a xs e => k1 a _ (G.out_tup e) e
        refine ⟨_, rfl, f, _, d.dx, _, _, rfl, G1.ins, T.c_Family, T.n_Family_finds, rfl, _, rfl, _, _, fs, b, rfl, G.finds.same G1.same, hfn, hb1, fun H2 s2 => ⟨_, rfl, ite2 (fun e3 => ?_) (fun e3 => ?_)⟩⟩
        · have G2 := G1.grow s2
          obtain ⟨G3, k3⟩ := G2.denied (hb1.same s2)
          refine ⟨_, rfl, _, rfl, f, _, d.dx, _, rfl, G2.ins, T.c_Family, T.n_Family_denied, (by show 8 < 1000; decide), ?_⟩
          have ep : put fs st b = ⟨fun m j => if m = b.1 ∧ j = b.2.1 then b.2.2 else st.C m j, st.wait ++ [b], some b⟩ := by
            unfold put
            rw [if_pos ⟨sden, hlt⟩, if_pos e3]
          refine q _ _ ((congrArg (fun z => FamAt K H0 _ f N sts fs z _) ep).mpr G3) ⟨rfl, rfl, rfl, rfl, rfl, rfl, rfl, rfl, rfl⟩ ?_
          exact k1.trans ((Kept.of s2).trans (fun c o n e => k3 c o n e))
        · have ep : put fs st b = ⟨fun m j => if m = b.1 ∧ j = b.2.1 then b.2.2 else st.C m j, st.wait ++ [b], none⟩ := by
            unfold put
            rw [if_pos ⟨sden, hlt⟩, if_neg e3]
          exact q _ _ ((congrArg (fun z => FamAt K H0 _ f N sts fs z _) ep).mpr (G1.grow s2)) ⟨rfl, rfl, rfl, rfl, rfl, rfl, rfl, rfl, rfl⟩ (k1.trans (Kept.of s2))
      · have hlt : ¬ st.C b.1 b.2.1 < b.2.2 := fun z => e2 (decide_eq_true z)
        exact q _ d (by rw [put_low (by omega)]; exact G) (SameD.refl d) Kept.refl
    · have e1' : ¬ d.vd = .non := fun z => e1 (decide_eq_true z)
      have sden : st.den ≠ none := fun z => by
        rw [z] at hden
        exact e1' hden
      exact iteF (q _ d (by rw [put_den sden]; exact G) (SameD.refl d) Kept.refl)
end
end K41
/-! K41W6: the family spreads. -/
namespace K41
open PySem PySem.Spec PyProof.Rows L2
section
variable {K : PySem.W.Frag} {H0 H H' : Hp} {f : Addr} {N : Nat} {sts : List Stp} {fs : List Find} {s : FS} {d : FD}
/-- the waiting list made anew -/
theorem FamAt.fresh (F : FamAt K H0 H f N sts fs s d) {p : Addr} (np : H p = none) :
    FamAt K H0 (upd (upd H p (.lst [])) f (.ins (He.ga K "Family") d.dx (putF "waiting" (.ref p) (d.ins N)))) f N sts fs ⟨s.C, [], s.den⟩ { d with aw := p, ws := [] } ∧
      (upd (upd H p (.lst [])) f (.ins (He.ga K "Family") d.dx (putF "waiting" (.ref p) (d.ins N)))) d.aw = some (.lst d.ws) ∧ Out f { d with aw := p, ws := [] } d.aw ∧
      (∀ b xs, H b = some (.tup xs) → (upd (upd H p (.lst [])) f (.ins (He.ga K "Family") d.dx (putF "waiting" (.ref p) (d.ins N)))) b = some (.tup xs)) := by
  have fp : f ≠ p := ne_of_none F.ins np
  have G := F.grow (same_upd (o := .lst []) np)
  have far : ∀ b, b ≠ f → b ≠ p → (upd (upd H p (.lst [])) f (.ins (He.ga K "Family") d.dx (putF "waiting" (.ref p) (d.ins N)))) b = H b := fun b h1 h2 => by
    rw [upd_ne h1, upd_ne h2]
  have nop : ∀ {b o}, H b = some o → b ≠ p := fun h => ne_of_none h np
  have tups : ∀ b xs, H b = some (.tup xs) → (upd (upd H p (.lst [])) f (.ins (He.ga K "Family") d.dx (putF "waiting" (.ref p) (d.ins N)))) b = some (.tup xs) := fun b xs e => by
    rw [far b (ne_of e F.ins (by intro z; cases z)) (nop e)]
    exact e
  have awf : d.aw ≠ f := ne_of F.wait F.ins (by intro z; cases z)
  refine ⟨⟨fun b o e => ?_, F.nf, ?_, F.steps, F.finds, ?_, F.latok, F.nac, ?_, F.rlen, fun m r e => ⟨(F.row m r e).1, ?_⟩, F.rnd, F.nam, ?_, F.same.free np, ?_, ?_, .nil, ?_, F.csz, ?_⟩, ?_, ⟨awf, (ne_of F.came F.wait (by intro z; cases z)).symm, nop F.wait, fun hm => ?_⟩, tups⟩
  · have e' := F.same _ _ e
    rw [far b (ne_of_none e F.nf) (nop e')]
    exact e'
  · rw [upd_same]
    rfl
  · rw [far _ (ne_of F.lat F.ins (by intro z; cases z)) (nop F.lat)]
    exact F.lat
  · rw [far _ (ne_of F.cuts F.ins (by intro z; cases z)) (nop F.cuts)]
    exact F.cuts
  · rw [far _ (F.rowNe e).1 (nop (F.row m r e).2)]
    exact (F.row m r e).2
  · rw [far _ (ne_of F.came F.ins (by intro z; cases z)) (nop F.came)]
    exact F.came
  · show upd (upd H p (.lst [])) f _ p = _
    rw [upd_ne fp.symm, upd_same]
  · show d.ac ≠ p
    exact nop F.cuts
  · have h := F.den
    show match s.den with | none => d.vd = .non | some q => Im _ d.vd (eBd q)
    cases e : s.den with
    | none =>
      rw [e] at h
      exact h
    | some q =>
      rw [e] at h
      exact h.tups tups
  · have := F.csz
    show 0 + pot sts.length N s.C ≤ 100000
    omega
  · rw [far _ awf (nop F.wait)]
    exact F.wait
  · obtain ⟨m, hm⟩ := List.getElem?_of_mem hm
    exact (F.rowNe hm).2.2.2.2 rfl
theorem putAll_snoc (l : List Bd) (q : Bd) : putAll fs s (l ++ [q]) = put fs (putAll fs s l) q := by
  unfold putAll
  rw [List.foldl_append]
  rfl
theorem turn_snoc (l : List Bd) (q : Bd) : turn N sts fs s (l ++ [q]) = putAll fs (turn N sts fs s l) (boundsFrom N sts fs q) := by
  unfold turn
  rw [List.foldl_append]
  rfl
end
section
variable {P : Program} {w : World} {K : PySem.W.Frag} {mg : Str → Option Value} {base : Heap}
def spSpread (K : PySem.W.Frag) : Sp := fun vs H Q _ => ∃ (f : Addr) (H0 : Hp) (N : Nat) (sts : List Stp) (fs : List Find) (s : FS) (d : FD), vs = [.ref f] ∧ FamAt K H0 H f N sts fs s d ∧ Fit N sts fs ∧ Go N sts fs [] [] s ∧ fs.length ≤ 40 ∧ sts.length ≤ 60 ∧
  ∀ H' s' d', FamAt K H0 H' f N sts fs s' d' → Go N sts fs [] [] s' → (s'.wait = [] ∨ s'.den ≠ none) → Q .non H'
theorem sc_Family_spread : FnScope ["self", "later", "bound", "more"] ["self"] (defScope st_Family_spread) := ⟨rfl, rfl, rfl, by decide +kernel, rfl, by decide +kernel, by decide +kernel⟩
theorem from_len {N : Nat} {sts : List Stp} {fs : List Find} {q : Bd} : (boundsFrom N sts fs q).length ≤ 4 := by
  unfold boundsFrom fromUp fromOn fromBack
  repeat' split
  all_goals simp
theorem ok_spread (T : Txt K mg) (M_put : HasM P w K mg base 2 (He.ga K "Family") "put" ["self", "bound", "ahead"] (spPut K)) (D_bounds_from : Has P w K mg base 2 "bounds_from" ["offices", "steps", "latest", "bound"] spBoundsFrom) :
    HasM P w K mg base 3 (He.ga K "Family") "spread" ["self"] (spSpread K) := by
  obtain ⟨fd, F⟩ := T.d_Family_spread
  refine ⟨_, fd, F.ok sc_Family_spread (fun vs H Q E h => ?_) (fun cdv A outer s H vs Q E hr h => ?_), T.m_spread, F.bindsN fun _ _ _ _ _ _ us hl => match us, hl with | [_], _ => rfl⟩
  · obtain ⟨f, _, _, _, _, _, _, rfl, _⟩ := h
    rfl
  · obtain ⟨f, H0, N, sts, fs, s0, d0, rfl, F0, X, G0, hfn, hsn, q⟩ := h
    refine ⟨_, PSs.nox (pss_one (ps_while PassesOwn.never (PW.pt (pw_and (pt_cmpR op_gt (pe_callB (call_lenK K) (by rfl) T.f_len PySem.boot_len (pa_cons (pe_fldK K (pv 0) rfl) pa_nil)) pe_int (nomark _)) (pw_and1 (pt_cmp (pc_isN (pe_fldK K (pv 0) rfl)) rfl))))
      (pss_cons (ps_v (i := 1) sc_Family_spread.nd (pe_fldK K (pv 0) rfl))
      (pss_cons (ps_fld (pv 0) (pe_lst pa_nil) rfl)
      (pss_one (ps_for PassesOwn.never rfl (pi_listK K (pv 1)) (pgn (i := 2) sc_Family_spread.nd)
        (pss_one (ps_for PassesOwn.never rfl (pi_listK K (pe_own D_bounds_from (hr.mono (by decide)) (pa_cons (pe_fldK K (pv 0) rfl) (pa_cons (pe_fldK K (pv 0) rfl) (pa_cons (pe_fldK K (pv 0) rfl) (pa_cons (pv 2) pa_nil)))))) (pgn (i := 3) sc_Family_spread.nd)
          (pss_one (ps_expr (pe_ownM T.c_Family M_put (hr.mono (by decide)) (pv 0) (pa_cons (pv 3) (pa_cons (pv 2) pa_nil))))))))))))), ?_⟩
    refine ⟨fun m σ H1 => ∃ s1 d1 y1 y2 y3, m = meas sts.length N s1 ∧ FamAt K H0 H1 f N sts fs s1 d1 ∧ Go N sts fs [] [] s1 ∧ σ = [some (.ref f), y1, y2, y3], ⟨_, s0, d0, none, none, none, rfl, F0, G0, rfl⟩, ?_⟩
    rintro m σ H1 ⟨s1, d1, y1, y2, y3, rfl, F1, G1, rfl⟩
    have lw1 : d1.ws.length = s1.wait.length := by rw [F1.bds.len, List.length_map]
    refine ⟨_, rfl, f, _, d1.dx, _, _, rfl, F1.ins, T.c_Family, T.n_Family_waiting, rfl, _, _, rfl, .inl (SqL.of F1.wait), _, _, rfl, rfl, decide ((0 : Int) < (d1.ws.length : Int)), rfl, ite2 (fun e1 => ?_) (fun e1 => ?_)⟩
    · have hw : s1.wait ≠ [] := fun z => by
        have := of_decide_eq_true e1
        rw [lw1, z] at this
        exact absurd this (by decide)
      refine ⟨_, rfl, f, _, d1.dx, _, _, rfl, F1.ins, T.c_Family, T.n_Family_denied, rfl, _, rfl, ite2 (fun e2 => ?_) (fun e2 => ?_)⟩
      · -- a turn
        refine ⟨fun σ' H' => ∃ m', m' < meas sts.length N s1 ∧ ∃ s2 d2 y1 y2 y3, m' = meas sts.length N s2 ∧ FamAt K H0 H' f N sts fs s2 d2 ∧ Go N sts fs [] [] s2 ∧ σ' = [some (.ref f), y1, y2, y3], fun σ' H' h => h, ?_⟩
        refine ⟨_, rfl, f, _, d1.dx, _, _, rfl, F1.ins, T.c_Family, T.n_Family_waiting, rfl, ?_⟩
        refine ⟨Nat.zero_le _, fun p np => ⟨_, rfl, f, _, d1.dx, _, rfl, (upd_ne (ne_of_none F1.ins np)).trans F1.ins, T.c_Family, T.n_Family_waiting, (by show 8 < 1000; decide), ?_⟩⟩
        obtain ⟨F2, hlw, hout, tups⟩ := F1.fresh np
        have bd2 := F1.bds.tups tups
        generalize ed2 : ({ d1 with aw := p, ws := [] } : FD) = d2 at F2 hout
        generalize eH2 : upd (upd H1 p (.lst [])) f (.ins (He.ga K "Family") d1.dx (putF "waiting" (.ref p) (d1.ins N))) = H2 at F2 hlw tups bd2
        -- for bound in later
        refine ⟨_, rfl, d1.aw, rfl, ⟨_, SqL.of hlw⟩, ?_⟩
        refine for_list (K := K) (a := d1.aw) (xs := d1.ws) (fun i σ' H' => ∃ d3 y2 y3, σ' = [some (.ref f), some (.ref d1.aw), y2, y3] ∧ FamAt K H0 H' f N sts fs (turn N sts fs ⟨s1.C, [], s1.den⟩ (s1.wait.take i)) d3 ∧ SameD d2 d3 ∧
            Go N sts fs (s1.wait.drop i) [] (turn N sts fs ⟨s1.C, [], s1.den⟩ (s1.wait.take i)) ∧ H' d1.aw = some (.lst d1.ws) ∧ ImL H' d1.ws (s1.wait.map eBd))
          ⟨d2, _, _, rfl, F2, SameD.refl d2, G1.take, hlw, bd2⟩ (fun i σ' H' _ h => ?_) (fun i x σ' H3 hx h => ?_) (fun σ' H' h => ?_)
        · obtain ⟨_, _, _, _, _, _, _, h, _⟩ := h
          exact SqL.of h
        · obtain ⟨d3, z2, z3, rfl, F3, sd3, G3, hlw3, bd3⟩ := h
          obtain ⟨dd, hdd, dx⟩ := bd3.getV hx
          obtain ⟨b, hb, rfl⟩ := map_get hdd
          have hi : i < s1.wait.length := (List.getElem?_eq_some_iff.mp hb).1
          have edrop : s1.wait.drop i = b :: s1.wait.drop (i + 1) := by
            rw [List.drop_eq_getElem_cons hi]
            have := (List.getElem?_eq_some_iff.mp hb).2
            rw [this]
          have etake : s1.wait.take (i + 1) = s1.wait.take i ++ [b] := by
            rw [List.take_add_one, hb]
            rfl
          rw [edrop] at G3
          have hbin := G3.rr b List.mem_cons_self
          obtain ⟨xs3, hs3, ds3⟩ := F3.steps
          -- for more in bounds_from(..)
          refine ⟨_, rfl, f, _, d3.dx, _, _, rfl, F3.ins, T.c_Family, T.n_Family_offices, rfl, _, rfl, f, _, d3.dx, _, _, rfl, F3.ins, T.c_Family, T.n_Family_steps, rfl, _, rfl, f, _, d3.dx, _, _, rfl, F3.ins, T.c_Family, T.n_Family_latest, rfl, _, rfl, ?_⟩
          refine ⟨N, _, x, d3.al, d3.kvs, AnyL, sts, fs, b, rfl, .lst trivial (F3.same _ _ hs3) ((ds3.same F3.same).any), F3.lat, F3.latok, dx, hbin.1, fun H4 v4 s4 d4 => ?_⟩
          obtain ⟨p4, xs4, rfl, np4, hp4, dl4⟩ := d4.lstE
          have dl4' : ImL H4 xs4 ((boundsFrom N sts fs b).map eBd) := dl4.free (noLA_map noL_bd _)
          have len4 : xs4.length = (boundsFrom N sts fs b).length := by rw [dl4.len, List.length_map]
          have F4 := F3.grow s4
          have out4 : Out f d2 p4 := sd3.outB (F3.out_new np4)
          have outA : Out f d2 d1.aw := hout
          refine ⟨p4, rfl, ⟨_, SqL.of hp4⟩, ?_⟩
          refine for_list (K := K) (a := p4) (xs := xs4) (fun j σ' H' => ∃ d5 z3, σ' = [some (.ref f), some (.ref d1.aw), some x, z3] ∧ FamAt K H0 H' f N sts fs (putAll fs (turn N sts fs ⟨s1.C, [], s1.den⟩ (s1.wait.take i)) ((boundsFrom N sts fs b).take j)) d5 ∧ SameD d2 d5 ∧
              Go N sts fs (b :: s1.wait.drop (i + 1)) [] (putAll fs (turn N sts fs ⟨s1.C, [], s1.den⟩ (s1.wait.take i)) ((boundsFrom N sts fs b).take j)) ∧ H' d1.aw = some (.lst d1.ws) ∧ ImL H' d1.ws (s1.wait.map eBd) ∧ H' p4 = some (.lst xs4) ∧ ImL H' xs4 ((boundsFrom N sts fs b).map eBd) ∧ Im H' x (eBd b))
            ⟨d3, _, rfl, F4, sd3, G3, s4 _ _ hlw3, bd3.same s4, hp4, dl4', dx.same s4⟩ (fun j σ' H' _ h => ?_) (fun j y σ' H5 hy h => ?_) (fun σ' H' h => ?_)
          · obtain ⟨_, _, _, _, _, _, _, _, h, _⟩ := h
            exact SqL.of h
          · obtain ⟨d5, w3, rfl, F5, sd5, G5, hlw5, bd5, hp5, dl5, dx5⟩ := h
            obtain ⟨dd, hdd, dy⟩ := dl5.getV hy
            obtain ⟨c, hc, rfl⟩ := map_get hdd
            have hcm := List.mem_of_getElem? hc
            have hcin := hbin.from_ X hcm
            refine ⟨_, rfl, f, d5.dx, _, rfl, F5.ins, rfl, _, rfl, _, rfl, f, y, x, H0, N, sts, fs, _, d5, c, rfl, F5, dy, hcin, hfn, fun H6 d6 F6 sd6 k6 => ?_⟩
            have k6' : Kept f d2 H5 H6 := sd5.kept k6
            have tups6 : ∀ a xs, H5 a = some (.tup xs) → H6 a = some (.tup xs) := fun a xs e => k6 a _ (F5.out_tup e) e
            have etk : (boundsFrom N sts fs b).take (j + 1) = (boundsFrom N sts fs b).take j ++ [c] := by
              rw [List.take_add_one, hc]
              rfl
            rw [etk, putAll_snoc]
            refine ⟨d6, _, rfl, F6, sd5.trans sd6, G5.put hcin (fun Fm hF => hF.from_ (G5.sr Fm hF b List.mem_cons_self) hcm), k6' _ _ outA hlw5, bd5.tups tups6, k6' _ _ out4 hp5, dl5.tups tups6, dx5.tups tups6⟩
          · obtain ⟨d5, w3, rfl, F5, sd5, G5, hlw5, bd5, hp5, dl5, dx5⟩ := h
            rw [len4, List.take_length] at F5 G5
            rw [etake, turn_snoc]
            refine ⟨d5, _, _, rfl, F5, sd5, ?_, hlw5, bd5⟩
            exact Go.next X G3
        · obtain ⟨d3, z2, z3, rfl, F3, sd3, G3, hlw3, bd3⟩ := h
          rw [lw1, List.take_length] at F3 G3
          rw [List.drop_length] at G3
          exact ⟨_, G1.falls X hw, _, d3, _, _, _, rfl, F3, G3, rfl⟩
      · refine q H1 s1 d1 F1 G1 (.inr fun z => ?_)
        have h := F1.den
        rw [z] at h
        exact e2 (decide_eq_true h)
    · refine iteF (q H1 s1 d1 F1 G1 (.inl ?_))
      have : ¬ (0 : Int) < (d1.ws.length : Int) := fun z => e1 (decide_eq_true z)
      exact List.length_eq_zero_iff.mp (by omega)
end
end K41
/-! K41W7: a family is made. -/
namespace K41
open PySem PySem.Spec PyProof.Rows L2
section
variable {P : Program} {w : World} {K : PySem.W.Frag} {mg : Str → Option Value} {base : Heap}
theorem rep_row (N : Nat) : (List.replicate ((N : Int) + 1).toNat [V.int (-1)]).flatten = rowV N (fun _ => -1) := by
  have e : ((N : Int) + 1).toNat = N + 1 := by omega
  rw [e]
  unfold rowV
  apply List.ext_getElem?
  intro i
  have e2 : (List.replicate (N + 1) [V.int (-1)]).flatten = List.replicate (N + 1) (V.int (-1)) := by
    generalize N + 1 = k
    induction k with
    | zero => rfl
    | succ k ih =>
      rw [List.replicate_succ, List.replicate_succ, List.flatten_cons, ih]
      rfl
  rw [e2, List.getElem?_map]
  by_cases h : i < N + 1
  · rw [List.getElem?_range h, List.getElem?_replicate, if_pos h]
    rfl
  · rw [List.getElem?_replicate, if_neg h, List.getElem?_eq_none (l := List.range (N + 1)) (by rw [List.length_range]; omega)]
    rfl
def spFamInit (K : PySem.W.Frag) : Sp := fun vs H Q _ => ∃ (p dx a1 a2 : Addr) (H0 : Hp) (N : Nat) (sts : List Stp) (fs : List Find) (xs : List V), vs = [.ref p, .int N, .ref a1, .ref a2] ∧ H p = some (.ins (He.ga K "Family") dx []) ∧ Same H0 H ∧ H0 p = none ∧
  (H0 a1 = some (.lst xs) ∧ ImL H0 xs (sts.map eStp)) ∧ FindsAt H0 (.ref a2) fs ∧ Fit N sts fs ∧ N ≤ 12 ∧ fs.length ≤ 40 ∧ sts.length ≤ 60 ∧
  ∀ H' s' d', FamAt K H0 H' p N sts fs s' d' → Go N sts fs [] [] s' → (s'.wait = [] ∨ s'.den ≠ none) → Q .non H'
theorem sc_Family_init : FnScope ["self", "offices", "steps", "finds", "bound", "moment"] ["self", "offices", "steps", "finds"] (defScope st_Family_init) := ⟨rfl, rfl, rfl, by decide +kernel, rfl, by decide +kernel, by decide +kernel⟩
theorem ok_Family_init (T : Txt K mg) (D_latest_shown : Has P w K mg base 1 "latest_shown" ["finds"] spLatest) (D_first_bounds : Has P w K mg base 1 "first_bounds" ["offices", "finds"] spFirstBounds)
    (M_put : HasM P w K mg base 2 (He.ga K "Family") "put" ["self", "bound", "ahead"] (spPut K)) (M_spread : HasM P w K mg base 3 (He.ga K "Family") "spread" ["self"] (spSpread K)) :
    HasI P w K mg base 4 "Family" (He.ga K "Family") ["self", "offices", "steps", "finds"] (spFamInit K) := by
  obtain ⟨fd, F⟩ := T.d_Family_init
  refine ⟨_, fd, F.ok sc_Family_init (fun vs H Q E h => ?_) (fun cdv A outer s H vs Q E hr h => ?_), T.k_Family, T.g_Family, F.bindsN fun _ _ _ _ _ _ us hl => match us, hl with | [_, _, _, _], _ => rfl⟩
  · obtain ⟨p, _, _, _, _, _, _, _, _, rfl, _⟩ := h
    rfl
  · obtain ⟨p, dx, a1, a2, H0, N, sts, fs, xs, rfl, hp, s0, np0, ⟨hst, dst⟩, hfs, X, hN, hfn, hsn, q⟩ := h
    have hlen : xs.length = sts.length := by rw [dst.len, List.length_map]
    refine ⟨_, PSs.nox (pss_cons (ps_fld (pv 0) (pv 1) rfl)
    (pss_cons (ps_fld (pv 0) (pv 2) rfl)
    (pss_cons (ps_fld (pv 0) (pv 3) rfl)
    (pss_cons (ps_fld (pv 0) (pe_own D_latest_shown (hr.mono (by decide)) (pa_cons (pv 3) pa_nil)) rfl)
    (pss_cons (ps_fld (pv 0) (pe_lc (own := [("moment", 5)]) rfl sc_Family_init.nd (pi_range1 rfl T.f_range (pa_cons (pe_op op_add (pe_callB (call_lenK K) (by rfl) T.f_len PySem.boot_len (pa_cons (pv 2) pa_nil)) pe_int) pa_nil)) (blkOk_by (by rfl)) (fun _ _ _ _ _ => (pgn (i := 5) sc_Family_init.nd)) (fun _ _ _ _ _ => pts_nil) (fun _ _ _ _ _ => (pe_op op_rep (pe_lst (pa_cons (pe_un un_neg pe_int) pa_nil)) (pe_op op_add (pv 1) pe_int)))) rfl)
    (pss_cons (ps_fld (pv 0) pe_dnewT rfl)
    (pss_cons (ps_fld (pv 0) pe_non rfl)
    (pss_cons (ps_fld (pv 0) (pe_lst pa_nil) rfl)
    (pss_cons (ps_for PassesOwn.never rfl (pi_listK K (pe_own D_first_bounds (hr.mono (by decide)) (pa_cons (pv 1) (pa_cons (pv 3) pa_nil)))) (pgn (i := 4) sc_Family_init.nd)
      (pss_one (ps_expr (pe_ownM T.c_Family M_put (hr.mono (by decide)) (pv 0) (pa_cons (pv 4) (pa_cons pe_non pa_nil))))))
    (pss_one (ps_expr (pe_ownM0 T.c_Family M_spread (hr.mono (by decide)) (pv 0))))))))))))), ?_⟩
    -- the three given ones
    refine ⟨_, rfl, _, rfl, p, _, dx, [], rfl, hp, T.c_Family, T.n_Family_offices, (by decide), ?_⟩
    have s1 := same_set (o := .ins (He.ga K "Family") dx (putF "offices" (V.int N) [])) s0 np0
    refine ⟨_, rfl, _, rfl, p, _, dx, _, rfl, upd_same, T.c_Family, T.n_Family_steps, (by show 1 < 1000; decide), ?_⟩
    rw [upd_upd]
    refine ⟨_, rfl, _, rfl, p, _, dx, _, rfl, upd_same, T.c_Family, T.n_Family_finds, (by show 2 < 1000; decide), ?_⟩
    rw [upd_upd]
    have s2 := same_set (o := .ins (He.ga K "Family") dx [("offices", V.int N), ("steps", .ref a1), ("finds", .ref a2)]) s0 np0
    -- latest
    refine ⟨_, rfl, .ref a2, fs, rfl, hfs.same s2, hfn, fun H3 al kvs s3 nal hal hlat => ?_⟩
    have hp3 := s3 _ _ (upd_same (H := H) (a := p) (o := .ins (He.ga K "Family") dx [("offices", V.int N), ("steps", .ref a1), ("finds", .ref a2)]))
    have npal : p ≠ al := ne_of hp3 hal (by intro z; cases z)
    refine ⟨_, rfl, p, _, dx, _, rfl, hp3, T.c_Family, T.n_Family_latest, (by show 3 < 1000; decide), ?_⟩
    have s4 := same_set (o := .ins (He.ga K "Family") dx [("offices", V.int N), ("steps", .ref a1), ("finds", .ref a2), ("latest", .ref al)]) (s2.trans s3) np0
    have nal0 : H0 al = none := s2.free nal
    -- cuts
    refine ⟨_, rfl, a1, xs, rfl, .inl (SqL.of (s4 _ _ hst)), _, _, rfl, rfl, _, rfl, by omega, by omega, fun D nD => ?_⟩
    refine lc_rangeY (lo := 0) (n := ((xs.length : Int) + 1).toNat) (fun i H' => Same (upd H3 p (.ins (He.ga K "Family") dx [("offices", V.int N), ("steps", .ref a1), ("finds", .ref a2), ("latest", .ref al)])) H' ∧ ∃ as : List Addr, H' D = some (.lst (as.map V.ref)) ∧ as.length = i ∧ as.Nodup ∧
        ∀ a, a ∈ as → (upd H3 p (.ins (He.ga K "Family") dx [("offices", V.int N), ("steps", .ref a1), ("finds", .ref a2), ("latest", .ref al)])) a = none ∧ a ≠ D ∧ H' a = some (.lst (rowV N fun _ => -1))) ⟨same_upd nD, [], upd_same, rfl, .nil, fun _ h => nomatch h⟩ (fun i H5 hi h => ?_) (fun H5 h => ?_)
    · obtain ⟨s5, as, hD, hl, hnd, hall⟩ := h
      refine ⟨rfl, ?_⟩
      refine ⟨_, rfl, (by show 1 ≤ sizeLine; decide), fun l1 n1 => ⟨_, rfl, _, _, rfl, rfl, l1, _, _, rfl, rfl, upd_same, by omega, by omega, ?_, fun l2 n2 => ?_⟩⟩
      · show 1 * ((N : Int) + 1).toNat ≤ sizeLine
        exact sizeOk (by omega)
      · have nD1 : D ≠ l1 := ne_of_none hD n1
        have n12 : l2 ≠ l1 := fun z => by rw [z, upd_same] at n2; cases n2
        have n25 : H5 l2 = none := by rw [upd_ne n12] at n2; exact n2
        have nD2 : D ≠ l2 := ne_of_none hD n25
        have s6 : Same H5 (upd (upd H5 l1 (.lst [V.int (-1)])) l2 (.lst (List.replicate ((N : Int) + 1).toNat [V.int (-1)]).flatten)) := (same_upd n1).trans (same_upd n2)
        refine ⟨as.map V.ref, s6 _ _ hD, sizeLt (by rw [List.length_map]; omega), same_set (s5.trans s6) nD, as ++ [l2], ?_, by rw [List.length_append, hl]; rfl, ?_, fun a ha => ?_⟩
        · rw [upd_same, List.map_append]
          rfl
        · refine List.nodup_append.mpr ⟨hnd, List.nodup_cons.mpr ⟨by simp, List.nodup_nil⟩, fun a ha b hb => ?_⟩
          rw [List.mem_singleton.mp hb]
          exact fun z => by
            rw [z] at ha
            have := (hall l2 ha).2.2
            rw [n25] at this
            cases this
        · rcases List.mem_append.mp ha with ha | ha
          · obtain ⟨h1, h2, h3⟩ := hall a ha
            exact ⟨h1, h2, by rw [upd_ne h2]; exact s6 _ _ h3⟩
          · rw [List.mem_singleton.mp ha]
            refine ⟨s5.free n25, nD2.symm, ?_⟩
            rw [upd_ne nD2.symm, upd_same, rep_row]
    · obtain ⟨s5, as, hD, hl, hnd, hall⟩ := h
      have hp5 := s5 _ _ upd_same
      have s6 := s4.trans s5
      have hal5 : H5 al = some (.dK kvs) := s5 _ _ (by rw [upd_ne npal.symm]; exact hal)
      refine ⟨_, rfl, p, _, dx, _, rfl, hp5, T.c_Family, T.n_Family_cuts, (by show 4 < 1000; decide), ?_⟩
      -- came
      intro am nam
      refine ⟨_, rfl, p, _, dx, _, rfl, (upd_ne (ne_of_none upd_same nam)).trans upd_same, T.c_Family, T.n_Family_came, (by show 5 < 1000; decide), ?_⟩
      -- denied
      refine ⟨_, rfl, p, _, dx, _, rfl, upd_same, T.c_Family, T.n_Family_denied, (by show 6 < 1000; decide), ?_⟩
      -- waiting
      refine ⟨Nat.zero_le _, fun aw naw => ⟨_, rfl, p, _, dx, _, rfl, (upd_ne (ne_of_none upd_same naw)).trans upd_same, T.c_Family, T.n_Family_waiting, (by show 7 < 1000; decide), ?_⟩⟩
      have npam : p ≠ am := ne_of_none upd_same nam
      have npaw : p ≠ aw := ne_of_none upd_same naw
      have nam5 : H5 am = none := by rw [upd_ne npam.symm] at nam; exact nam
      have namaw : am ≠ aw := fun z => by
        rw [← z, upd_ne npam.symm, upd_ne npam.symm, upd_same] at naw
        cases naw
      have naw5 : H5 aw = none := by
        rw [upd_ne npaw.symm, upd_ne npaw.symm, upd_ne namaw.symm, upd_ne npaw.symm] at naw
        exact naw
      generalize eH6 : (upd (upd (upd (upd (upd (upd H5 p _) am _) p _) p _) aw _) p _ : Hp) = H6
      have far : ∀ b, b ≠ p → b ≠ am → b ≠ aw → H6 b = H5 b := fun b h1 h2 h3 => by
        rw [← eH6, upd_ne h1, upd_ne h3, upd_ne h1, upd_ne h1, upd_ne h2, upd_ne h1]
      have hp6 : H6 p = some (.ins (He.ga K "Family") dx [("offices", V.int N), ("steps", .ref a1), ("finds", .ref a2), ("latest", .ref al), ("cuts", .ref D), ("came", .ref am), ("denied", .non), ("waiting", .ref aw)]) := by
        rw [← eH6, upd_same]
        rfl
      have ham6 : H6 am = some (.dT []) := by
        rw [← eH6, upd_ne npam.symm, upd_ne namaw, upd_ne npam.symm, upd_ne npam.symm, upd_same]
      have haw6 : H6 aw = some (.lst []) := by
        rw [← eH6, upd_ne npaw.symm, upd_same]
      have hpn : ∀ {b o}, b ≠ p → H5 b = some o → H6 b = some o := fun {b o} n e => by
        rw [far b n (ne_of_none e nam5) (ne_of_none e naw5)]
        exact e
      have alp : al ≠ p := npal.symm
      have Dp : D ≠ p := ne_of hD hp5 (by intro z; cases z)
      have FA : FamAt K H0 H6 p N sts fs fs0 ⟨dx, a1, a2, al, D, am, aw, as, kvs, [], .non, []⟩ := by
        refine ⟨fun b o e => hpn (ne_of_none e np0) (s6 _ _ e), np0, hp6, ⟨xs, hst, dst⟩, hfs, hpn alp hal5, hlat, s4.free nD, hpn Dp hD, ?_, fun m r e => ?_, hnd, s6.free nam5, ham6, s6.free naw5, haw6, ne_of_none hD naw5, .nil, rfl, ?_, ?_⟩
        · rw [hl, hlen]
          omega
        · obtain ⟨h1, h2, h3⟩ := hall r (List.mem_of_getElem? e)
          exact ⟨s4.free h1, hpn (ne_of h3 hp5 (by intro z; cases z)) h3⟩
        · have h1 := pot_le (M := sts.length) (N := N) (C := fs0.C) (fun _ _ => Int.le_refl _)
          have h2 : (sts.length + 1) * ((N + 1) * (2 * N + 1)) ≤ 61 * (13 * 25) := Nat.mul_le_mul (by omega) (Nat.mul_le_mul (by omega) (by omega))
          show 0 + pot sts.length N fs0.C ≤ 100000
          omega
        · have h1 := pot_le (M := sts.length) (N := N) (C := fs0.C) (fun _ _ => Int.le_refl _)
          have h2 : (sts.length + 1) * ((N + 1) * (2 * N + 1)) ≤ 61 * (13 * 25) := Nat.mul_le_mul (by omega) (Nat.mul_le_mul (by omega) (by omega))
          show 0 + pot sts.length N fs0.C ≤ 100000
          omega
      clear eH6
      -- the first bounds are put
      refine ⟨_, rfl, _, rfl, N, .ref a2, fs, rfl, hfs.same FA.same, hN, hfn, fun H7 v7 s7 d7 => ?_⟩
      obtain ⟨p7, xs7, rfl, np7, hp7, dl7⟩ := d7.lstE
      have dl7' : ImL H7 xs7 ((firstBounds N fs).map eBd) := dl7.free (noLA_map noL_bd _)
      have len7 : xs7.length = (firstBounds N fs).length := by rw [dl7.len, List.length_map]
      have out7 := FA.out_new np7
      refine ⟨p7, rfl, ⟨_, SqL.of hp7⟩, ?_⟩
      refine for_list (K := K) (a := p7) (xs := xs7) (fun i σ' H' => ∃ d2 y4, σ' = [some (.ref p), some (.int N), some (.ref a1), some (.ref a2), y4, none] ∧ FamAt K H0 H' p N sts fs (putAll fs fs0 ((firstBounds N fs).take i)) d2 ∧ SameD ⟨dx, a1, a2, al, D, am, aw, as, kvs, [], .non, []⟩ d2 ∧
          Go N sts fs [] (firstBounds N fs) (putAll fs fs0 ((firstBounds N fs).take i)) ∧ H' p7 = some (.lst xs7) ∧ ImL H' xs7 ((firstBounds N fs).map eBd))
        ⟨_, _, rfl, FA.grow s7, SameD.refl _, Go.start, hp7, dl7'⟩ (fun i σ' H' _ h => ?_) (fun i x σ' H8 hx h => ?_) (fun σ' H8 h => ?_)
      · obtain ⟨_, _, _, _, _, _, h, _⟩ := h
        exact SqL.of h
      · obtain ⟨d2, y4, rfl, F2, sd2, G2, hp2, dl2⟩ := h
        obtain ⟨dd, hdd, dx8⟩ := dl2.getV hx
        obtain ⟨c, hc, rfl⟩ := map_get hdd
        have hcm := List.mem_of_getElem? hc
        refine ⟨_, rfl, p, d2.dx, _, rfl, F2.ins, rfl, _, rfl, p, x, .non, H0, N, sts, fs, _, d2, c, rfl, F2, dx8, InR.firsts X c hcm, hfn, fun H9 d9 F9 sd9 k9 => ?_⟩
        have etk : (firstBounds N fs).take (i + 1) = (firstBounds N fs).take i ++ [c] := by
          rw [List.take_add_one, hc]
          rfl
        rw [etk, putAll_snoc]
        have k9' := sd2.kept k9
        have tups9 : ∀ a xs, H8 a = some (.tup xs) → H9 a = some (.tup xs) := fun a xs e => k9 a _ (F2.out_tup e) e
        exact ⟨d9, _, rfl, F9, sd2.trans sd9, G2.put (InR.firsts X c hcm) (fun Fm hF => hF.firsts X.finds c hcm), k9' _ _ out7 hp2, dl2.tups tups9⟩
      · obtain ⟨d2, y4, rfl, F2, sd2, G2, hp2, dl2⟩ := h
        rw [len7, List.take_length] at F2
        refine ⟨_, rfl, p, d2.dx, _, rfl, F2.ins, rfl, p, H0, N, sts, fs, first N fs, d2, rfl, F2, X, Go.first X, hfn, hsn, fun H9 s9 d9 F9 G9 h9 => q H9 s9 d9 F9 G9 h9⟩
end
end K41
/-! K41W8: least and greatest cuts, finds seen from the other end. -/
namespace K41
open PySem PySem.Spec PyProof.Rows L2
def eCuts (c : List Int) : PyData := .tuple (c.map PyData.int)
def eTab : Option (List (List Int)) → PyData
  | none => .none
  | some t => .tuple (t.map eCuts)
theorem noL_ints : ∀ c : List Int, noLA (c.map PyData.int) = true := fun c => noLA_map (fun _ => rfl) c
theorem noL_cuts (c : List Int) : noL (eCuts c) = true := noL_ints c
section
variable {P : Program} {w : World} {K : PySem.W.Frag} {mg : Str → Option Value} {base : Heap}
def spFamilyOf (K : PySem.W.Frag) : Sp := fun vs H Q _ => ∃ (vl vf : V) (N : Nat) (rows : List Row) (fs : List Find), vs = [vl, vf] ∧ LogAt K H vl N rows ∧ FindsAt H vf fs ∧ InpOk N rows fs ∧
  ∀ H0 H' f s d, Same H H0 → FamAt K H0 H' f N (stepsOf rows) fs s d → Go N (stepsOf rows) fs [] [] s → (s.wait = [] ∨ s.den ≠ none) → Q (.ref f) H'
theorem sc_family_of : FnScope ["log", "finds"] ["log", "finds"] (defScope st_family_of) := ⟨rfl, rfl, rfl, by decide +kernel, rfl, by decide +kernel, by decide +kernel⟩
theorem ok_family_of (T : Txt K mg) (D_Family : HasI P w K mg base 4 "Family" (He.ga K "Family") ["self", "offices", "steps", "finds"] (spFamInit K)) (D_steps_of : Has P w K mg base 3 "steps_of" ["log"] (spStepsOf K)) :
    Has P w K mg base 6 "family_of" ["log", "finds"] (spFamilyOf K) := by
  obtain ⟨fd, F⟩ := T.d_family_of
  refine ⟨_, fd, F.ok sc_family_of (fun vs H Q E h => ?_) (fun cdv A outer s H vs Q E hr h => ?_), T.g_family_of, F.kp, F.bindsN fun _ _ _ _ _ _ us hl => match us, hl with | [_, _], _ => rfl⟩
  · obtain ⟨vl, vf, _, _, _, rfl, _⟩ := h
    rfl
  · obtain ⟨vl, vf, N, rows, fs, rfl, hL, hf, I, q⟩ := h
    obtain ⟨p, dx, t, xs, rfl, hp, ht, hx⟩ := hL.rows
    obtain ⟨af, ys, rfl, haf, dys⟩ := id hf
    refine ⟨_, PSs.nox (pss_one (ps_ret (pe_ownI D_Family (hr.mono (by decide)) (pa_cons (pe_fldK K (pv 0) rfl) (pa_cons (pe_own D_steps_of (hr.mono (by decide)) (pa_cons (pv 0) pa_nil)) (pa_cons (pe_callTy (call_listK K) (by rfl) T.f_list (by decide +kernel) (pa_cons (pv 1) pa_nil)) pa_nil)))))), ?_⟩
    refine ⟨_, rfl, p, _, dx, _, _, rfl, hp, T.c_Log, T.n_Log_offices, rfl, _, rfl, .ref p, N, rows, rfl, hL, I.len, fun H1 v1 s1 d1 => ?_⟩
    obtain ⟨a1, zs, rfl, _, ha1, dz⟩ := d1.lstE
    refine ⟨_, rfl, af, ys, rfl, haf.imp (fun h => SqL.of (s1 _ _ h)) (fun h => SqT.of (s1 _ _ h)), fun a2 n2 => ?_⟩
    have s2 := same_upd (o := .lst ys) n2
    intro x dx' nx ndx nex
    have sx : Same (upd H1 a2 (.lst ys)) (upd (upd (upd H1 a2 (.lst ys)) dx' (.own x)) x (.ins (He.ga K "Family") dx' [])) := fun b o e => by
      rw [upd_ne (ne_of_none e nx), upd_ne (ne_of_none e ndx)]
      exact e
    refine ⟨x, dx', a1, a2, upd H1 a2 (.lst ys), N, stepsOf rows, fs, zs, rfl, upd_same, sx, nx, ⟨s2 _ _ ha1, (dz.free (noLA_map noL_stp _)).same s2⟩, ⟨a2, ys, rfl, .inl upd_same, dys.same (s1.trans s2)⟩, I.fit, I.n2, I.flen, by rw [stepsOf_len]; exact I.len, fun H' s' d' F' G' h' => ⟨rfl, q _ H' x s' d' (s1.trans s2) F' G' h'⟩⟩
def spFits (K : PySem.W.Frag) : Sp := fun vs H Q _ => ∃ (vl vf : V) (N : Nat) (rows : List Row) (fs : List Find), vs = [vl, vf] ∧ LogAt K H vl N rows ∧ FindsAt H vf fs ∧ InpOk N rows fs ∧ ∀ H', Same H H' → Q (.bl (lowTab N rows fs).isSome) H'
theorem den_non {K : PySem.W.Frag} {H0 H : Hp} {f : Addr} {N : Nat} {sts : List Stp} {fs : List Find} {s : FS} {d : FD} (F : FamAt K H0 H f N sts fs s d) : (s.den = none → d.vd = .non) ∧ (s.den ≠ none → d.vd ≠ .non) := by
  have h := F.den
  refine ⟨fun e => ?_, fun e z => ?_⟩
  · rw [e] at h
    exact h
  · cases e2 : s.den with
    | none => exact e e2
    | some q =>
      rw [e2, z] at h
      obtain ⟨_, z, _⟩ := bd_at h
      cases z
theorem sc_fits : FnScope ["log", "finds"] ["log", "finds"] (defScope st_fits) := ⟨rfl, rfl, rfl, by decide +kernel, rfl, by decide +kernel, by decide +kernel⟩
theorem ok_fits (T : Txt K mg) (D_family_of : Has P w K mg base 6 "family_of" ["log", "finds"] (spFamilyOf K)) : Has P w K mg base 7 "fits" ["log", "finds"] (spFits K) := by
  obtain ⟨fd, F⟩ := T.d_fits
  refine ⟨_, fd, F.ok sc_fits (fun vs H Q E h => ?_) (fun cdv A outer s H vs Q E hr h => ?_), T.g_fits, F.kp, F.bindsN fun _ _ _ _ _ _ us hl => match us, hl with | [_, _], _ => rfl⟩
  · obtain ⟨vl, vf, _, _, _, rfl, _⟩ := h
    rfl
  · obtain ⟨vl, vf, N, rows, fs, rfl, hL, hf, I, q⟩ := h
    refine ⟨_, PSs.nox (pss_one (ps_ret (pe_cmp (pc_isN (pe_fldK K (pe_own D_family_of (hr.mono (by decide)) (pa_cons (pv 0) (pa_cons (pv 1) pa_nil))) rfl)) rfl))), ?_⟩
    refine ⟨_, rfl, _, rfl, vl, vf, N, rows, fs, rfl, hL, hf, I, fun H0 H' f s d s0 FA G h => ?_⟩
    refine ⟨f, _, d.dx, _, _, rfl, FA.ins, T.c_Family, T.n_Family_denied, rfl, ?_⟩
    have q1 := q H' (s0.trans FA.same)
    obtain ⟨z1, z2⟩ := den_non FA
    rcases low_of_end I G h with ⟨e1, e2⟩ | ⟨e1, e2⟩
    · rw [e2] at q1
      show Q (.bl (decide (d.vd = .non))) H'
      rw [decide_eq_true (z1 e1)]
      exact q1
    · rw [e2] at q1
      show Q (.bl (decide (d.vd = .non))) H'
      rw [decide_eq_false (z2 e1)]
      exact q1
theorem sc_fit : FnScope ["log", "finds"] ["log", "finds"] (defScope st_fit) := ⟨rfl, rfl, rfl, by decide +kernel, rfl, by decide +kernel, by decide +kernel⟩
theorem ok_fit (T : Txt K mg) (D_check_finds : Has P w K mg base 4 "check_finds" ["log", "finds"] (spCheckFinds K)) (D_fits : Has P w K mg base 7 "fits" ["log", "finds"] (spFits K)) : Has P w K mg base 8 "fit" ["log", "finds"] (spFits K) := by
  obtain ⟨fd, F⟩ := T.d_fit
  refine ⟨_, fd, F.ok sc_fit (fun vs H Q E h => ?_) (fun cdv A outer s H vs Q E hr h => ?_), T.g_fit, F.kp, F.bindsN fun _ _ _ _ _ _ us hl => match us, hl with | [_, _], _ => rfl⟩
  · obtain ⟨vl, vf, _, _, _, rfl, _⟩ := h
    rfl
  · obtain ⟨vl, vf, N, rows, fs, rfl, hL, hf, I, q⟩ := h
    refine ⟨_, PSs.nox (pss_cons (ps_expr (pe_own D_check_finds (hr.mono (by decide)) (pa_cons (pv 0) (pa_cons (pv 1) pa_nil))))
    (pss_one (ps_ret (pe_own D_fits (hr.mono (by decide)) (pa_cons (pv 0) (pa_cons (pv 1) pa_nil)))))), ?_⟩
    refine ⟨_, rfl, _, rfl, vl, N, rows, vf, fs, rfl, hL, hf, I.flen, I.findsOk, fun H1 s1 => ?_⟩
    exact ⟨_, rfl, _, rfl, vl, vf, N, rows, fs, rfl, hL.same s1, hf.same s1, I, fun H2 s2 => q H2 (s1.trans s2)⟩
def spLowCuts (K : PySem.W.Frag) : Sp := fun vs H Q _ => ∃ (vl vf : V) (N : Nat) (rows : List Row) (fs : List Find), vs = [vl, vf] ∧ LogAt K H vl N rows ∧ FindsAt H vf fs ∧ InpOk N rows fs ∧ ∀ H' v', Same H H' → Im H' v' (eTab (lowTab N rows fs)) → Q v' H'
theorem sc_low_cuts : FnScope ["log", "finds", "family", "cuts"] ["log", "finds"] (defScope st_low_cuts) := ⟨rfl, rfl, rfl, by decide +kernel, rfl, by decide +kernel, by decide +kernel⟩
theorem ok_low_cuts (T : Txt K mg) (D_family_of : Has P w K mg base 6 "family_of" ["log", "finds"] (spFamilyOf K)) : Has P w K mg base 7 "low_cuts" ["log", "finds"] (spLowCuts K) := by
  obtain ⟨fd, F⟩ := T.d_low_cuts
  refine ⟨_, fd, F.ok sc_low_cuts (fun vs H Q E h => ?_) (fun cdv A outer s H vs Q E hr h => ?_), T.g_low_cuts, F.kp, F.bindsN fun _ _ _ _ _ _ us hl => match us, hl with | [_, _], _ => rfl⟩
  · obtain ⟨vl, vf, _, _, _, rfl, _⟩ := h
    rfl
  · obtain ⟨vl, vf, N, rows, fs, rfl, hL, hf, I, q⟩ := h
    refine ⟨_, PSs.nox (pss_cons (ps_v (i := 2) sc_low_cuts.nd (pe_own D_family_of (hr.mono (by decide)) (pa_cons (pv 0) (pa_cons (pv 1) pa_nil))))
    (pss_one (ps_ret (pe_ifExp (pt_cmp (pc_isN (pe_fldK K (pv 2) rfl)) rfl) (pe_callTy (call_tupleK K) (by rfl) T.f_tuple (by decide +kernel) (pa_cons (pe_lc (own := [("cuts", 3)]) rfl sc_low_cuts.nd (pi_listK K (pe_fldK K (pv 2) rfl)) (blkOk_by (by rfl)) (fun _ _ _ _ _ => (pgn (i := 3) sc_low_cuts.nd)) (fun _ _ _ _ _ => pts_nil) (fun _ _ _ _ _ => (pe_callTy (call_tupleK K) (by rfl) T.f_tuple (by decide +kernel) (pa_cons (pv 3) pa_nil)))) pa_nil)) pe_non)))), ?_⟩
    refine ⟨_, rfl, _, rfl, vl, vf, N, rows, fs, rfl, hL, hf, I, fun H0 H1 f s d s0 FA G h => ?_⟩
    have s1 := s0.trans FA.same
    obtain ⟨z1, z2⟩ := den_non FA
    refine ⟨_, rfl, f, _, d.dx, _, _, rfl, FA.ins, T.c_Family, T.n_Family_denied, rfl, _, rfl, ?_⟩
    rcases low_of_end I G h with ⟨e1, e2⟩ | ⟨e1, e2⟩
    · rw [decide_eq_true (z1 e1)]
      refine iteT (A := _) ?_
      refine ⟨_, rfl, f, _, d.dx, _, _, rfl, FA.ins, T.c_Family, T.n_Family_cuts, rfl, d.ac, rfl, ⟨_, SqL.of FA.cuts⟩, fun D nD => ?_⟩
      have rl := FA.rlen
      rw [stepsOf_len] at rl
      have hl := I.len
      refine lc_map (walk_list (K := K) (a := d.ac) (xs := d.rows.map V.ref)) ((tabOf N rows.length s.C).map eCuts) (by unfold tabOf; simp; omega) (by rw [List.length_map]; omega) nD (fun H2 s2 => SqL.of (s2 _ _ FA.cuts)) (fun i e x H2 H3 Qy he s2 hY k => ?_) (fun H2 ys s2 e2' d2 => ?_)
      · obtain ⟨rfl, hx⟩ := hY
        obtain ⟨r, hr', rfl⟩ := map_get hx
        obtain ⟨c, hc, rfl⟩ := map_get he
        unfold tabOf at hc
        obtain ⟨m, hm, rfl⟩ := map_get hc
        have em : i = m := by
          have hlt := (List.getElem?_eq_some_iff.mp hm).1
          rw [List.length_range] at hlt
          rw [List.getElem?_range hlt] at hm
          exact Option.some.inj hm
        subst em
        have hrow := s2 _ _ (FA.row i r hr').2
        refine ⟨rfl, _, rfl, r, _, rfl, .inl ⟨SqL.of hrow, fun l nl => ?_⟩⟩
        refine k _ _ (same_upd nl) (.tup upd_same ?_)
        have e3 : rowV N (s.C i) = ((List.range (N + 1)).map fun b => s.C i b).map V.int := by
          unfold rowV
          rw [List.map_map]
          rfl
        rw [e3]
        exact DtL.ofInts _
      · refine ⟨D, ys, rfl, .inl ⟨SqL.of e2', fun l nl => ?_⟩⟩
        refine q _ _ ((s1.trans s2).trans (same_upd nl)) ?_
        rw [e2]
        exact .tup upd_same ((d2.free (noLA_map noL_cuts _)).same (same_upd nl))
    · rw [decide_eq_false (z2 e1)]
      refine iteF (B := _) ?_
      refine q H1 .non s1 ?_
      rw [e2]
      exact .non
theorem sc_least_cuts : FnScope ["log", "finds"] ["log", "finds"] (defScope st_least_cuts) := ⟨rfl, rfl, rfl, by decide +kernel, rfl, by decide +kernel, by decide +kernel⟩
theorem ok_least_cuts (T : Txt K mg) (D_check_finds : Has P w K mg base 4 "check_finds" ["log", "finds"] (spCheckFinds K)) (D_low_cuts : Has P w K mg base 7 "low_cuts" ["log", "finds"] (spLowCuts K)) : Has P w K mg base 8 "least_cuts" ["log", "finds"] (spLowCuts K) := by
  obtain ⟨fd, F⟩ := T.d_least_cuts
  refine ⟨_, fd, F.ok sc_least_cuts (fun vs H Q E h => ?_) (fun cdv A outer s H vs Q E hr h => ?_), T.g_least_cuts, F.kp, F.bindsN fun _ _ _ _ _ _ us hl => match us, hl with | [_, _], _ => rfl⟩
  · obtain ⟨vl, vf, _, _, _, rfl, _⟩ := h
    rfl
  · obtain ⟨vl, vf, N, rows, fs, rfl, hL, hf, I, q⟩ := h
    refine ⟨_, PSs.nox (pss_cons (ps_expr (pe_own D_check_finds (hr.mono (by decide)) (pa_cons (pv 0) (pa_cons (pv 1) pa_nil))))
    (pss_one (ps_ret (pe_own D_low_cuts (hr.mono (by decide)) (pa_cons (pv 0) (pa_cons (pv 1) pa_nil)))))), ?_⟩
    refine ⟨_, rfl, _, rfl, vl, N, rows, vf, fs, rfl, hL, hf, I.flen, I.findsOk, fun H1 s1 => ?_⟩
    exact ⟨_, rfl, _, rfl, vl, vf, N, rows, fs, rfl, hL.same s1, hf.same s1, I, fun H2 v2 s2 d2 => q H2 v2 (s1.trans s2) d2⟩
def spTurnedFinds (K : PySem.W.Frag) : Sp := fun vs H Q _ => ∃ (vl vf : V) (N : Nat) (rows : List Row) (fs : List Find), vs = [vl, vf] ∧ LogAt K H vl N rows ∧ FindsAt H vf fs ∧ InpOk N rows fs ∧ ∀ H' v', Same H H' → Dt (New H) H' v' (.list ((fs.map (turnFind N)).map eFind)) → Q v' H'
theorem sc_turned_finds : FnScope ["log", "finds", "last", "moment", "office", "edition"] ["log", "finds"] (defScope st_turned_finds) := ⟨rfl, rfl, rfl, by decide +kernel, rfl, by decide +kernel, by decide +kernel⟩
theorem ok_turned_finds (T : Txt K mg) : Has P w K mg base 1 "turned_finds" ["log", "finds"] (spTurnedFinds K) := by
  obtain ⟨fd, F⟩ := T.d_turned_finds
  refine ⟨_, fd, F.ok sc_turned_finds (fun vs H Q E h => ?_) (fun cdv A outer s H vs Q E hr h => ?_), T.g_turned_finds, F.kp, F.bindsN fun _ _ _ _ _ _ us hl => match us, hl with | [_, _], _ => rfl⟩
  · obtain ⟨vl, vf, _, _, _, rfl, _⟩ := h
    rfl
  · obtain ⟨vl, vf, N, rows, fs, rfl, hL, hf, I, q⟩ := h
    obtain ⟨p, dx, t, xs, rfl, hp, ht, hx⟩ := hL.rows
    obtain ⟨a, ys, rfl, ha, dy⟩ := hf
    have hfl := I.flen
    refine ⟨_, PSs.nox (pss_cons (ps_v (i := 2) sc_turned_finds.nd (pe_op op_sub (pe_fldK K (pv 0) rfl) pe_int))
    (pss_one (ps_ret (pe_lc (own := [("moment", 3), ("office", 4), ("edition", 5)]) rfl sc_turned_finds.nd (pi_seqK K (pv 1)) (blkOk_by (by rfl)) (fun _ _ _ _ _ => (pg_tupK K 3 rfl (pgs_cons (pgn (i := 3) sc_turned_finds.nd) (pgs_cons (pgn (i := 4) sc_turned_finds.nd) (pgs_cons (pgn (i := 5) sc_turned_finds.nd) pgs_nil))))) (fun _ _ _ _ _ => pts_nil) (fun _ _ _ _ _ => (pe_tup (pa_cons (pv 3) (pa_cons (pe_op op_sub (pv 2) (pv 4)) (pa_cons (pe_op op_sub (pv 2) (pv 5)) pa_nil))))))))), ?_⟩
    refine ⟨_, rfl, p, _, dx, _, _, rfl, hp, T.c_Log, T.n_Log_offices, rfl, _, _, rfl, rfl, ?_⟩
    refine ⟨_, rfl, a, rfl, lc_mapS ha dy ((fs.map (turnFind N)).map eFind) (by simp) (by simp; omega) (fun i d e x H2 Qy hd he s2 dx2 k => ?_) (fun D H2 zs nD s2 e2 d2 => q H2 _ s2 (Dt.made nD e2 d2))⟩
    obtain ⟨f, hf', rfl⟩ := map_get hd
    obtain ⟨g, hg, rfl⟩ := map_get he
    obtain ⟨f', hf2, rfl⟩ := map_get hg
    rw [hf'] at hf2
    cases hf2
    obtain ⟨h1, h2, h3⟩ := I.findsOk f (List.mem_of_getElem? hf')
    obtain ⟨c, rfl, hc⟩ := find_at dx2
    refine ⟨c, _, rfl, SqT.of hc, rfl, _, _, rfl, _, _, rfl, _, _, rfl, rfl, rfl, ?_⟩
    refine ⟨_, rfl, _, rfl, _, rfl, _, _, rfl, rfl, _, rfl, _, rfl, _, _, rfl, rfl, (by show 3 ≤ sizeLine; decide), fun t' nt => k _ _ (same_upd nt) (tri_mk ?_)⟩
    rw [upd_same]
    show some (HO.tup [V.int f.1, V.int ((N : Int) - 1 - f.2.1), V.int ((N : Int) - 1 - f.2.2)]) = some (HO.tup [V.int f.1, V.int ((N - 1 - f.2.1 : Nat) : Int), V.int ((N - 1 - f.2.2 : Nat) : Int)])
    have e1 : (N : Int) - 1 - f.2.1 = ((N - 1 - f.2.1 : Nat) : Int) := by omega
    have e2 : (N : Int) - 1 - f.2.2 = ((N - 1 - f.2.2 : Nat) : Int) := by omega
    rw [e1, e2]
theorem sc_mirrored_finds : FnScope ["log", "finds"] ["log", "finds"] (defScope st_mirrored_finds) := ⟨rfl, rfl, rfl, by decide +kernel, rfl, by decide +kernel, by decide +kernel⟩
theorem ok_mirrored_finds (T : Txt K mg) (D_check_finds : Has P w K mg base 4 "check_finds" ["log", "finds"] (spCheckFinds K)) (D_turned_finds : Has P w K mg base 1 "turned_finds" ["log", "finds"] (spTurnedFinds K)) : Has P w K mg base 5 "mirrored_finds" ["log", "finds"] (spTurnedFinds K) := by
  obtain ⟨fd, F⟩ := T.d_mirrored_finds
  refine ⟨_, fd, F.ok sc_mirrored_finds (fun vs H Q E h => ?_) (fun cdv A outer s H vs Q E hr h => ?_), T.g_mirrored_finds, F.kp, F.bindsN fun _ _ _ _ _ _ us hl => match us, hl with | [_, _], _ => rfl⟩
  · obtain ⟨vl, vf, _, _, _, rfl, _⟩ := h
    rfl
  · obtain ⟨vl, vf, N, rows, fs, rfl, hL, hf, I, q⟩ := h
    refine ⟨_, PSs.nox (pss_cons (ps_expr (pe_own D_check_finds (hr.mono (by decide)) (pa_cons (pv 0) (pa_cons (pv 1) pa_nil))))
    (pss_one (ps_ret (pe_own D_turned_finds (hr.mono (by decide)) (pa_cons (pv 0) (pa_cons (pv 1) pa_nil)))))), ?_⟩
    refine ⟨_, rfl, _, rfl, vl, N, rows, vf, fs, rfl, hL, hf, I.flen, I.findsOk, fun H1 s1 => ?_⟩
    exact ⟨_, rfl, _, rfl, vl, vf, N, rows, fs, rfl, hL.same s1, hf.same s1, I, fun H2 v2 s2 d2 => q H2 v2 (s1.trans s2) (d2.weak fun a ha => s1.free ha)⟩
/-! ### the greatest cuts -/
def spHighCuts (K : PySem.W.Frag) : Sp := fun vs H Q _ => ∃ (vl vf : V) (N : Nat) (rows : List Row) (fs : List Find), vs = [vl, vf] ∧ LogAt K H vl N rows ∧ FindsAt H vf fs ∧ InpOk N rows fs ∧ ∀ H' v', Same H H' → Im H' v' (eTab (highTab N rows fs)) → Q v' H'
theorem sc_high_cuts : FnScope ["log", "finds", "found", "cuts", "cut"] ["log", "finds"] (defScope st_high_cuts) := ⟨rfl, rfl, rfl, by decide +kernel, rfl, by decide +kernel, by decide +kernel⟩
theorem ok_high_cuts (T : Txt K mg) (D_low_cuts : Has P w K mg base 7 "low_cuts" ["log", "finds"] (spLowCuts K)) (D_mirrored : Has P w K mg base 8 "mirrored" ["log"] (spMirrored K)) (D_turned_finds : Has P w K mg base 1 "turned_finds" ["log", "finds"] (spTurnedFinds K)) :
    Has P w K mg base 9 "high_cuts" ["log", "finds"] (spHighCuts K) := by
  obtain ⟨fd, F⟩ := T.d_high_cuts
  refine ⟨_, fd, F.ok sc_high_cuts (fun vs H Q E h => ?_) (fun cdv A outer s H vs Q E hr h => ?_), T.g_high_cuts, F.kp, F.bindsN fun _ _ _ _ _ _ us hl => match us, hl with | [_, _], _ => rfl⟩
  · obtain ⟨vl, vf, _, _, _, rfl, _⟩ := h
    rfl
  · obtain ⟨vl, vf, N, rows, fs, rfl, hL, hf, I, q⟩ := h
    obtain ⟨p, dx, t, xs, rfl, hp, ht, hx⟩ := id hL.rows
    refine ⟨_, PSs.nox (pss_cons (ps_v (i := 2) sc_high_cuts.nd (pe_own D_low_cuts (hr.mono (by decide)) (pa_cons (pe_own D_mirrored (hr.mono (by decide)) (pa_cons (pv 0) pa_nil)) (pa_cons (pe_own D_turned_finds (hr.mono (by decide)) (pa_cons (pv 0) (pa_cons (pv 1) pa_nil))) pa_nil))))
    (pss_cons (ps_if (pt_cmp (pc_isN (pv 2)) rfl)
      (pss_one (ps_ret pe_non))
      pss_nil)
    (pss_one (ps_ret (pe_callTy (call_tupleK K) (by rfl) T.f_tuple (by decide +kernel) (pa_cons (pe_lc (own := [("cuts", 3)]) rfl sc_high_cuts.nd (pi_tupK K (pv 2)) (blkOk_by (by rfl)) (fun _ _ _ _ _ => (pgn (i := 3) sc_high_cuts.nd)) (fun _ _ _ _ _ => pts_nil) (fun _ _ _ _ _ => (pe_callTy (call_tupleK K) (by rfl) T.f_tuple (by decide +kernel) (pa_cons (pe_lc (own := [("cut", 4)]) rfl sc_high_cuts.nd (pi_tupK K (pe_revTK K (pv 3))) (blkOk_by (by rfl)) (fun _ _ _ _ _ => (pgn (i := 4) sc_high_cuts.nd)) (fun _ _ _ _ _ => pts_nil) (fun _ _ _ _ _ => (pe_op op_sub (pe_fldK K (pv 0) rfl) (pv 4)))) pa_nil)))) pa_nil)))))), ?_⟩
    refine ⟨_, rfl, .ref p, N, rows, rfl, hL, ⟨I.n1, I.n2⟩, I.len, I.rowsOk, fun H1 v1 s1 l1 => ?_⟩
    refine ⟨_, rfl, _, rfl, .ref p, vf, N, rows, fs, rfl, hL.same s1, hf.same s1, I, fun H2 v2 s2 d2 => ?_⟩
    have s12 := s1.trans s2
    refine ⟨v1, v2, N, rows.map (turnRow N), fs.map (turnFind N), rfl, l1.same s2, FindsAt.ofL d2, I.turn, fun H3 v3 s3 d3 => ?_⟩
    have s13 := s12.trans s3
    have el : highTab N rows fs = (lowTab N (rows.map (turnRow N)) (fs.map (turnFind N))).map (turnTab N) := rfl
    cases e : lowTab N (rows.map (turnRow N)) (fs.map (turnFind N)) with
    | none =>
      rw [e] at d3 el
      rw [el] at q
      cases d3.nonE
      exact ⟨_, rfl, true, rfl, iteT (A := _) (q H3 _ s13 .non)⟩
    | some tb =>
      rw [e] at d3 el
      rw [el] at q
      obtain ⟨tl1, tl2⟩ := tab_len e
      rw [List.length_map] at tl1
      have hlen := I.len
      have hN := I.n2
      obtain ⟨c, ys, rfl, hc, dy⟩ := Dt.tupE (show Im H3 v3 (.tuple (tb.map eCuts)) from d3)
      refine ⟨_, rfl, false, rfl, iteF (B := _) ?_⟩
      refine ⟨_, rfl, c, rfl, ⟨_, SqT.of hc⟩, fun D nD => ?_⟩
      refine lc_mapT (SqT.of hc) dy ((turnTab N tb).map eCuts) (by unfold turnTab; simp) (by rw [List.length_map]; omega) nD (fun i d e' x H4 Qy hd he s4 dx4 k => ?_) (fun H4 zs s4 e4 d4 => ?_)
      · obtain ⟨cs, hcs, rfl⟩ := map_get hd
        obtain ⟨cs2, hcs2, rfl⟩ := map_get he
        unfold turnTab at hcs2
        obtain ⟨cs3, hcs3, rfl⟩ := map_get hcs2
        rw [hcs] at hcs3
        cases hcs3
        have lcs := tl2 cs (List.mem_of_getElem? hcs)
        obtain ⟨a5, us, rfl, ha5, du⟩ := Dt.tupE (show Im H4 x (.tuple (cs.map .int)) from dx4)
        refine ⟨rfl, _, rfl, a5, us, rfl, SqT.of ha5, fun r nr => ?_⟩
        have s5 := same_upd (o := .tup us.reverse) nr
        refine ⟨r, rfl, ⟨_, SqT.of upd_same⟩, fun D5 nD5 => ?_⟩
        have dur : ImL (upd H4 r (.tup us.reverse)) us.reverse (cs.reverse.map PyData.int) := by
          rw [List.map_reverse]
          exact (du.reverse).same s5
        refine lc_mapT (SqT.of upd_same) dur ((cs.reverse.map fun z => (N : Int) - z).map PyData.int) (by simp) (by simp; omega) nD5 (fun j d6 e6 y H6 Qz hd6 he6 s6 dx6 k6 => ?_) (fun H6 zs6 s6 e6 d6 => ?_)
        · obtain ⟨z, hz, rfl⟩ := map_get hd6
          obtain ⟨z2, hz2, rfl⟩ := map_get he6
          obtain ⟨z3, hz3, rfl⟩ := map_get hz2
          rw [hz] at hz3
          cases hz3
          cases dx6.intE
          exact ⟨rfl, _, rfl, p, _, dx, _, _, rfl, s6 _ _ (s5 _ _ (s4 _ _ (s13 _ _ hp))), T.c_Log, T.n_Log_offices, rfl, _, rfl, _, _, rfl, rfl, k6 _ _ (Same.refl _) (.int _)⟩
        · refine ⟨D5, zs6, rfl, .inl ⟨SqL.of e6, fun l nl => ?_⟩⟩
          exact k _ _ ((s5.trans s6).trans (same_upd nl)) (.tup upd_same ((d6.free (noL_ints _)).same (same_upd nl)))
      · refine ⟨D, zs, rfl, .inl ⟨SqL.of e4, fun l nl => ?_⟩⟩
        exact q _ _ ((s13.trans s4).trans (same_upd nl)) (.tup upd_same ((d4.free (noLA_map noL_cuts _)).same (same_upd nl)))
theorem sc_greatest_cuts : FnScope ["log", "finds"] ["log", "finds"] (defScope st_greatest_cuts) := ⟨rfl, rfl, rfl, by decide +kernel, rfl, by decide +kernel, by decide +kernel⟩
theorem ok_greatest_cuts (T : Txt K mg) (D_check_finds : Has P w K mg base 4 "check_finds" ["log", "finds"] (spCheckFinds K)) (D_high_cuts : Has P w K mg base 9 "high_cuts" ["log", "finds"] (spHighCuts K)) : Has P w K mg base 10 "greatest_cuts" ["log", "finds"] (spHighCuts K) := by
  obtain ⟨fd, F⟩ := T.d_greatest_cuts
  refine ⟨_, fd, F.ok sc_greatest_cuts (fun vs H Q E h => ?_) (fun cdv A outer s H vs Q E hr h => ?_), T.g_greatest_cuts, F.kp, F.bindsN fun _ _ _ _ _ _ us hl => match us, hl with | [_, _], _ => rfl⟩
  · obtain ⟨vl, vf, _, _, _, rfl, _⟩ := h
    rfl
  · obtain ⟨vl, vf, N, rows, fs, rfl, hL, hf, I, q⟩ := h
    refine ⟨_, PSs.nox (pss_cons (ps_expr (pe_own D_check_finds (hr.mono (by decide)) (pa_cons (pv 0) (pa_cons (pv 1) pa_nil))))
    (pss_one (ps_ret (pe_own D_high_cuts (hr.mono (by decide)) (pa_cons (pv 0) (pa_cons (pv 1) pa_nil)))))), ?_⟩
    refine ⟨_, rfl, _, rfl, vl, N, rows, vf, fs, rfl, hL, hf, I.flen, I.findsOk, fun H1 s1 => ?_⟩
    exact ⟨_, rfl, _, rfl, vl, vf, N, rows, fs, rfl, hL.same s1, hf.same s1, I, fun H2 v2 s2 d2 => q H2 v2 (s1.trans s2) d2⟩
end
end K41
/-! K41W9: the law's draws. -/
namespace K41
open PySem PySem.Spec PyProof.Rows L2
/-- the hand of cells that the law draws from -/
def HandAt (H : Hp) (p c : Addr) : Prop := ∃ (cells : List Int) (i b s k : Int), H p = some (.lst [.ref c, .int i, .int b, .int s, .int k]) ∧ H c = some (.lst (cells.map V.int)) ∧ 0 ≤ i
theorem HandAt.some {H : Hp} {p c : Addr} (h : HandAt H p c) : ∃ xs ys, H p = some (.lst xs) ∧ H c = some (.lst ys) := by
  obtain ⟨cells, i, b, s, k, h, hc, _⟩ := h
  exact ⟨_, _, h, hc⟩
theorem HandAt.same {H H' : Hp} {p c : Addr} (s : Same H H') (h : HandAt H p c) : HandAt H' p c := by
  obtain ⟨cells, i, b, z, k, h, hc, hi⟩ := h
  exact ⟨cells, i, b, z, k, s _ _ h, s _ _ hc, hi⟩
/-- elsewhere -/
theorem HandAt.upd {H : Hp} {p c D : Addr} {o : HO} (h : HandAt H p c) (np : p ≠ D) (nc : c ≠ D) : HandAt (L2.upd H D o) p c := by
  obtain ⟨cells, i, b, z, k, h, hc, hi⟩ := h
  exact ⟨cells, i, b, z, k, by rw [upd_ne np]; exact h, by rw [upd_ne nc]; exact hc, hi⟩
theorem hand_ne {H : Hp} {c p : Addr} {cells : List Int} {xs : List V} (h : H p = some (.lst (.ref c :: xs))) (hc : H c = some (.lst (cells.map V.int))) : c ≠ p := by
  refine ne_of hc h ?_
  intro z
  cases cells with
  | nil => cases z
  | cons a l => cases z
/-- tuples stand where only a list has changed -/
theorem But.tups {p : Addr} {H H' : Hp} (b : But p H H') {xs : List V} (h : H p = some (.lst xs)) : ∀ a ys, H a = some (.tup ys) → H' a = some (.tup ys) := fun a ys e => b a _ (ne_of e h (by intro z; cases z)) e
section
variable {P : Program} {w : World} {K : PySem.W.Frag} {mg : Str → Option Value} {base : Heap}
def spHand (K : PySem.W.Frag) : Sp := fun vs H Q _ => ∃ (a : Addr) (ns : List Int), vs = [.ref a] ∧ SqL K H a (ns.map V.int) ∧ ns.length ≤ 63 ∧ ∀ H' p c, Same H H' → H p = none → HandAt H' p c → Q (.ref p) H'
theorem sc__law_hand : FnScope ["_law_script", "_law_cells", "_law_cell"] ["_law_script"] (defScope st__law_hand) := ⟨rfl, rfl, rfl, by decide +kernel, rfl, by decide +kernel, by decide +kernel⟩
theorem ok__law_hand (T : Txt K mg) : Has P w K mg base 1 "_law_hand" ["_law_script"] (spHand K) := by
  obtain ⟨fd, F⟩ := T.d__law_hand
  refine ⟨_, fd, F.ok sc__law_hand (fun vs H Q E h => ?_) (fun cdv A outer s H vs Q E hr h => ?_), T.g__law_hand, F.kp, F.bindsN fun _ _ _ _ _ _ us hl => match us, hl with | [_], _ => rfl⟩
  · obtain ⟨a, ns, rfl, _⟩ := h
    rfl
  · obtain ⟨a, ns, rfl, hS, hn, q⟩ := h
    refine ⟨_, PSs.nox (pss_cons (ps_setLc (i := 1) rfl sc__law_hand.nd rfl rfl (sw_true rfl rfl rfl (by decide +kernel)) (own := [("_law_cell", 2)]) (pi_listK K (pe_slice (sl_listK K) (pv 0) po_none (po_some pe_int))) (blkOk_by (by rfl)) (fun _ _ _ _ _ => (pgn (i := 2) sc__law_hand.nd)) (fun _ _ _ _ _ => pts_nil) (fun _ _ _ _ _ => (pe_callB call_abs (by rfl) T.f_abs (by decide +kernel) (pa_cons (pe_callTy call_int1 (by rfl) T.f_int (by decide +kernel) (pa_cons (pv 2) pa_nil)) pa_nil))))
    (pss_one (ps_ret (pe_lst (pa_cons (pv 1) (pa_cons pe_int (pa_cons pe_int (pa_cons (pe_op op_add pe_int (pe_callB (call_lenK K) (by rfl) T.f_len PySem.boot_len (pa_cons (pv 1) pa_nil))) (pa_cons pe_int pa_nil))))))))), ?_⟩
    refine ⟨_, rfl, 63, rfl, a, _, rfl, hS, fun c nc => ?_⟩
    have s1 := same_upd (o := .lst (cutV (ns.map V.int) none (some 63))) nc
    obtain ⟨zs, hz, lz⟩ : ∃ zs : List Int, cutV (ns.map V.int) none (some 63) = zs.map V.int ∧ zs.length ≤ ns.length := by
      refine ⟨(ns.drop (HT.sIx (ns.map V.int).length 0 none)).take (HT.sIx (ns.map V.int).length (ns.map V.int).length (some 63) - HT.sIx (ns.map V.int).length 0 none), ?_, ?_⟩
      · unfold cutV
        rw [List.map_take, List.map_drop]
      · rw [List.length_take, List.length_drop]
        omega
    refine ⟨c, rfl, ⟨_, SqL.of upd_same⟩, fun D nD => ?_⟩
    have dz : DtL AnyL (upd H c (.lst (cutV (ns.map V.int) none (some 63)))) (cutV (ns.map V.int) none (some 63)) (zs.map PyData.int) := by
      rw [hz]
      exact DtL.ofInts zs
    refine lc_mapL (SqL.of upd_same) dz ((zs.map fun z => if z < 0 then -z else z).map PyData.int) (by simp) (by simp; omega) nD (fun i d e x H2 Qy hd he s2 dx k => ?_) (fun H2 ys s2 e2 d2 => ?_)
    · obtain ⟨z, hz', rfl⟩ := map_get hd
      obtain ⟨z2, hz2, rfl⟩ := map_get he
      obtain ⟨z3, hz3, rfl⟩ := map_get hz2
      rw [hz'] at hz3
      cases hz3
      cases dx.intE
      exact ⟨rfl, _, rfl, .inl ⟨_, rfl, _, rfl, k _ _ (Same.refl _) (.int _)⟩⟩
    · have s3 := s1.trans s2
      have nDH : H D = none := s1.free nD
      cases d2.ints
      refine ⟨_, rfl, _, rfl, D, _, rfl, .inl (SqL.of e2), _, _, rfl, rfl, (by show 5 ≤ sizeLine; decide), fun p np => ?_⟩
      refine q _ p D (s3.trans (same_upd np)) (s3.free np) ⟨zs.map fun z => if z < 0 then -z else z, 0, 0, _, 0, upd_same, (upd_ne (ne_of_none e2 np)).trans e2, Int.le_refl _⟩
def spDraw : Sp := fun vs H Q _ => ∃ (p c : Addr) (n : Int), vs = [.ref p, .int n] ∧ HandAt H p c ∧ 0 < n ∧ n < 1073741824 ∧ ∀ H' v, But p H H' → HandAt H' p c → 0 ≤ v → v < n → Q (.int v) H'
theorem sc__law_draw : FnScope ["_law_hand_here", "_law_many", "_law_number", "_law_cell", "_law_digit"] ["_law_hand_here", "_law_many"] (defScope st__law_draw) := ⟨rfl, rfl, rfl, by decide +kernel, rfl, by decide +kernel, by decide +kernel⟩
theorem ok__law_draw (T : Txt K mg) : Has P w K mg base 1 "_law_draw" ["_law_hand_here", "_law_many"] spDraw := by
  obtain ⟨fd, F⟩ := T.d__law_draw
  refine ⟨_, fd, F.ok sc__law_draw (fun vs H Q E h => ?_) (fun cdv A outer s H vs Q E hr h => ?_), T.g__law_draw, F.kp, F.bindsN fun _ _ _ _ _ _ us hl => match us, hl with | [_, _], _ => rfl⟩
  · obtain ⟨p, c, n, rfl, _⟩ := h
    rfl
  · obtain ⟨p, c, n, rfl, ⟨cells, i, b, z, k, hp, hc, hi⟩, hn0, hn1, q⟩ := h
    have ncp := hand_ne hp hc
    refine ⟨_, PSs.nox (C8.pss_cut (ps_if (PW.pt (pw_and (pt_cmpR op_eq (pe_ix (ix_listK K) (pv 0) pe_int (fun _ _ => rfl)) pe_int (nomark _)) (pw_and1 (pt_cmpR op_lt (pe_ix (ix_listK K) (pv 0) pe_int (fun _ _ => rfl)) (pe_callB (call_lenK K) (by rfl) T.f_len PySem.boot_len (pa_cons (pe_ix (ix_listK K) (pv 0) pe_int (fun _ _ => rfl)) pa_nil)) (nomark _)))))
      (pss_cons (ps_v (i := 3) sc__law_draw.nd (pe_ix (ix_listK K) (pe_ix (ix_listK K) (pv 0) pe_int (fun _ _ => rfl)) (pe_ix (ix_listK K) (pv 0) pe_int (fun _ _ => rfl)) (fun _ _ => rfl)))
      (pss_cons (ps_asg (pe_op op_add (pe_ix (ix_listK K) (pv 0) pe_int (fun _ _ => rfl)) pe_int) (pg_sub (pv 0) pe_int set_list))
      (pss_cons (ps_asg (pe_op op_mod (pe_callTy call_int1 (by rfl) T.f_int (by decide +kernel) (pa_cons (pe_op op_add (pe_op op_add (pe_op op_mul (pe_ix (ix_listK K) (pv 0) pe_int (fun _ _ => rfl)) pe_int) (pv 3)) pe_int) pa_nil)) pe_int) (pg_sub (pv 0) pe_int set_list))
      (pss_one (ps_if (pt_cmpR op_ge (pv 3) (pe_op op_pow pe_int pe_int) (nomark _))
        (pss_one (ps_asg (pv 3) (pg_sub (pv 0) pe_int set_list)))
        pss_nil)))))
      pss_nil)
    (pss_cons (ps_if (pt_cmpR op_gt (pe_ix (ix_listK K) (pv 0) pe_int (fun _ _ => rfl)) pe_int (nomark _))
      (pss_cons (ps_v (i := 4) sc__law_draw.nd (pe_op op_mod (pe_callTy call_int1 (by rfl) T.f_int (by decide +kernel) (pa_cons (pe_ix (ix_listK K) (pv 0) pe_int (fun _ _ => rfl)) pa_nil)) (pv 1)))
      (pss_cons (ps_asg (pe_op op_fdiv (pe_ix (ix_listK K) (pv 0) pe_int (fun _ _ => rfl)) (pv 1)) (pg_sub (pv 0) pe_int set_list))
      (pss_one (ps_ret (pv 4)))))
      pss_nil)
    (pss_cons (ps_asg (pe_op op_add (pe_ix (ix_listK K) (pv 0) pe_int (fun _ _ => rfl)) pe_int) (pg_sub (pv 0) pe_int set_list))
    (pss_cons (ps_v (i := 2) sc__law_draw.nd (pe_op op_mod (pe_callTy call_int1 (by rfl) T.f_int (by decide +kernel) (pa_cons (pe_op op_mul (pe_callTy call_int1 (by rfl) T.f_int (by decide +kernel) (pa_cons (pe_op op_add (pe_ix (ix_listK K) (pv 0) pe_int (fun _ _ => rfl)) (pe_op op_mul pe_int (pe_ix (ix_listK K) (pv 0) pe_int (fun _ _ => rfl)))) pa_nil)) pe_int) pa_nil)) pe_int))
    (pss_cons (ps_v (i := 2) sc__law_draw.nd (pe_op op_mod (pe_callTy call_int1 (by rfl) T.f_int (by decide +kernel) (pa_cons (pe_op op_mul (pv 2) (pe_op op_add (pe_op op_fdiv (pv 2) pe_int) pe_int)) pa_nil)) pe_int))
    (pss_cons (ps_v (i := 2) sc__law_draw.nd (pe_op op_mod (pe_callTy call_int1 (by rfl) T.f_int (by decide +kernel) (pa_cons (pe_op op_mul (pv 2) (pe_op op_add (pe_op op_fdiv (pv 2) pe_int) pe_int)) pa_nil)) pe_int))
    (pss_one (ps_ret (pe_op op_mod (pe_callTy call_int1 (by rfl) T.f_int (by decide +kernel) (pa_cons (pe_op op_fdiv (pv 2) pe_int) pa_nil)) (pv 1)))))))))), ?_⟩
    refine ⟨fun σ' H' => ∃ y3, σ' = [some (.ref p), some (.int n), none, y3, none] ∧ But p H H' ∧ HandAt H' p c, ?_, ?_⟩
    · have stay : But p H H ∧ HandAt H p c := ⟨But.refl p H, cells, i, b, z, k, hp, hc, hi⟩
      refine ⟨_, rfl, p, _, _, _, rfl, rfl, SqL.of hp, atI_nat (j := 2) rfl, rfl, _, rfl, ite2 (fun e1 => ?_) (fun e1 => ?_)⟩
      · refine ⟨_, rfl, p, _, _, _, rfl, rfl, SqL.of hp, atI_nat (j := 1) rfl, _, rfl, p, _, _, _, rfl, rfl, SqL.of hp, atI_nat (j := 0) rfl, c, _, rfl, .inl (SqL.of hc), _, _, rfl, rfl, _, rfl, ite2 (fun e2 => ?_) (fun e2 => ?_)⟩
        · have hlt : i < ((cells.map V.int).length : Int) := of_decide_eq_true e2
          rw [List.length_map] at hlt
          have hit : i.toNat < cells.length := by omega
          have g : (cells.map V.int)[i.toNat]? = some (.int cells[i.toNat]) := by
            rw [List.getElem?_map, List.getElem?_eq_getElem hit]
            rfl
          refine ⟨_, rfl, p, _, _, _, rfl, rfl, SqL.of hp, atI_nat (j := 0) rfl, _, rfl, p, _, _, _, rfl, rfl, SqL.of hp, atI_nat (j := 1) rfl, c, _, i, _, rfl, rfl, SqL.of hc, at_of (by omega) g, ?_⟩
          generalize cells[i.toNat] = cell
          refine ⟨_, rfl, p, _, _, _, rfl, rfl, SqL.of hp, atI_nat (j := 1) rfl, _, _, rfl, rfl, _, rfl, p, _, _, 1, rfl, rfl, hp, rfl, ?_⟩
          refine ⟨_, rfl, p, _, _, _, rfl, rfl, SqL.of upd_same, atI_nat (j := 3) rfl, _, _, rfl, rfl, .inr ⟨by decide, by decide⟩, _, rfl, _, _, rfl, rfl, _, _, rfl, rfl, .inl ⟨_, rfl, _, _, rfl, rfl, (by show (0 : Int) < 2147483629; decide), ?_⟩⟩
          refine ⟨_, rfl, p, _, _, 3, rfl, rfl, upd_same, rfl, ?_⟩
          rw [upd_upd]
          have fin : ∀ b' s', But p H (upd H p (.lst [.ref c, .int (i + 1), .int b', .int s', .int k])) ∧ HandAt (upd H p (.lst [.ref c, .int (i + 1), .int b', .int s', .int k])) p c := fun b' s' =>
            ⟨But.set, cells, i + 1, b', s', k, upd_same, by rw [upd_ne ncp]; exact hc, by omega⟩
          refine ⟨_, rfl, _, _, rfl, rfl, ⟨by decide, by decide, by decide⟩, _, _, rfl, rfl, _, rfl, ite2 (fun e3 => ?_) (fun e3 => ?_)⟩
          · refine ⟨_, rfl, _, rfl, p, _, _, 2, rfl, rfl, upd_same, rfl, ?_⟩
            rw [upd_upd]
            exact ⟨_, rfl, fin _ _⟩
          · exact ⟨_, rfl, fin _ _⟩
        · exact ⟨none, rfl, stay⟩
      · exact iteF (B := _) ⟨none, rfl, stay⟩
    · rintro σ' H1 ⟨y3, rfl, b1, ⟨cells1, i1, b', z1, k1, hp1, hc1, hi1⟩⟩
      have ncp1 := hand_ne hp1 hc1
      refine ⟨_, rfl, p, _, _, _, rfl, rfl, SqL.of hp1, atI_nat (j := 2) rfl, _, _, rfl, rfl, _, rfl, ite2 (fun e1 => ?_) (fun e1 => ?_)⟩
      · refine ⟨_, rfl, p, _, _, _, rfl, rfl, SqL.of hp1, atI_nat (j := 2) rfl, .inl ⟨_, rfl, _, rfl, _, _, rfl, rfl, hn0, ?_⟩⟩
        refine ⟨_, rfl, p, _, _, _, rfl, rfl, SqL.of hp1, atI_nat (j := 2) rfl, _, rfl, _, _, rfl, rfl, ⟨hn0, hn1⟩, _, rfl, p, _, _, 2, rfl, rfl, hp1, rfl, ?_⟩
        refine ⟨_, rfl, q _ _ (b1.trans But.set) ⟨cells1, i1, _, z1, k1, upd_same, by rw [upd_ne ncp1]; exact hc1, hi1⟩ (Int.emod_nonneg _ (by omega)) (Int.emod_lt_of_pos _ hn0)⟩
      · refine ⟨_, rfl, p, _, _, _, rfl, rfl, SqL.of hp1, atI_nat (j := 4) rfl, _, _, rfl, rfl, _, rfl, p, _, _, 4, rfl, rfl, hp1, rfl, ?_⟩
        refine ⟨_, rfl, p, _, _, _, rfl, rfl, SqL.of upd_same, atI_nat (j := 3) rfl, _, rfl, p, _, _, _, rfl, rfl, SqL.of upd_same, atI_nat (j := 4) rfl, _, _, rfl, rfl, .inl ⟨by decide, by decide⟩, _, _, rfl, rfl, .inl ⟨_, rfl, _, _, rfl, rfl, .inr ⟨by decide, by decide⟩, .inl ⟨_, rfl, _, _, rfl, rfl, (by show (0 : Int) < 2147483647; decide), ?_⟩⟩⟩
        generalize (z1 + 7919 * (k1 + 1)) * 48271 = m0
        have r0 : 0 ≤ m0 % 2147483647 ∧ m0 % 2147483647 < 2147483647 := ⟨Int.emod_nonneg _ (by decide), Int.emod_lt_of_pos _ (by decide)⟩
        generalize m0 % 2147483647 = m1 at r0
        refine ⟨_, rfl, _, rfl, _, _, rfl, rfl, ⟨by decide, by decide⟩, _, _, rfl, rfl, _, _, rfl, rfl, .inl ⟨by omega, by omega⟩, .inl ⟨_, rfl, _, _, rfl, rfl, (by show (0 : Int) < 2147483647; decide), ?_⟩⟩
        generalize m1 * (m1 / 1009 + 69621) = m2
        have r2 : 0 ≤ m2 % 2147483647 ∧ m2 % 2147483647 < 2147483647 := ⟨Int.emod_nonneg _ (by decide), Int.emod_lt_of_pos _ (by decide)⟩
        generalize m2 % 2147483647 = m3 at r2
        refine ⟨_, rfl, _, rfl, _, _, rfl, rfl, ⟨by decide, by decide⟩, _, _, rfl, rfl, _, _, rfl, rfl, .inl ⟨by omega, by omega⟩, .inl ⟨_, rfl, _, _, rfl, rfl, (by show (0 : Int) < 2147483399; decide), ?_⟩⟩
        refine ⟨_, rfl, _, _, rfl, rfl, ⟨by decide, by decide⟩, .inl ⟨_, rfl, _, rfl, _, _, rfl, rfl, hn0, ?_⟩⟩
        exact q _ _ (b1.trans But.set) ⟨cells1, i1, b', z1, _, upd_same, by rw [upd_ne ncp1]; exact hc1, hi1⟩ (Int.emod_nonneg _ (by omega)) (Int.emod_lt_of_pos _ hn0)
end
end K41
/-! K41W10: drawn rows, drawn doings. -/
namespace K41
open PySem PySem.Spec PyProof.Rows L2
def eDoing (d : List Bool) : PyData := .tuple (d.map PyData.bool)
theorem noL_doing (d : List Bool) : noL (eDoing d) = true := noLA_map (fun _ => rfl) d
section
variable {P : Program} {w : World} {K : PySem.W.Frag} {mg : Str → Option Value} {base : Heap}
def spRow : Sp := fun vs H Q _ => ∃ (p c : Addr) (N : Nat) (sh : Int), vs = [.ref p, .int N, .int sh] ∧ HandAt H p c ∧ 2 ≤ N ∧ N ≤ 12 ∧ ∀ H' v' r, But p H H' → HandAt H' p c → Im H' v' (eRow r) → RowOk N r → Q v' H'
theorem sc__law_row : FnScope ["_law_hand_here", "_law_offices", "_law_share", "_law_one", "_law_other"] ["_law_hand_here", "_law_offices", "_law_share"] (defScope st__law_row) := ⟨rfl, rfl, rfl, by decide +kernel, rfl, by decide +kernel, by decide +kernel⟩
theorem ok__law_row (T : Txt K mg) (D__law_draw : Has P w K mg base 1 "_law_draw" ["_law_hand_here", "_law_many"] spDraw) : Has P w K mg base 2 "_law_row" ["_law_hand_here", "_law_offices", "_law_share"] spRow := by
  obtain ⟨fd, F⟩ := T.d__law_row
  refine ⟨_, fd, F.ok sc__law_row (fun vs H Q E h => ?_) (fun cdv A outer s H vs Q E hr h => ?_), T.g__law_row, F.kp, F.bindsN fun _ _ _ _ _ _ us hl => match us, hl with | [_, _, _], _ => rfl⟩
  · obtain ⟨p, c, N, sh, rfl, _⟩ := h
    rfl
  · obtain ⟨p, c, N, sh, rfl, hh, hN2, hN, q⟩ := h
    refine ⟨_, PSs.nox (pss_cons (ps_v (i := 3) sc__law_row.nd (pe_own D__law_draw (hr.mono (by decide)) (pa_cons (pv 0) (pa_cons (pv 1) pa_nil))))
    (pss_cons (ps_v (i := 4) sc__law_row.nd (pe_op op_sub (pe_op op_add (pv 3) pe_int) (pe_op op_mul pe_int (pe_own D__law_draw (hr.mono (by decide)) (pa_cons (pv 0) (pa_cons pe_int pa_nil))))))
    (C8.pss_cut (ps_if (PW.pt (pw_or (pt_cmpR op_lt (pv 4) pe_int (nomark _)) (pw_or1 (pt_cmpR op_eq (pv 4) (pv 1) (nomark _)))))
      (pss_one (ps_v (i := 4) sc__law_row.nd (pe_op op_sub (pe_op op_mul pe_int (pv 3)) (pv 4))))
      pss_nil)
    (pss_one (ps_ret (pe_tup (pa_cons (pv 3) (pa_cons (pv 4) (pa_cons (pe_cmpR op_lt (pe_own D__law_draw (hr.mono (by decide)) (pa_cons (pv 0) (pa_cons pe_int pa_nil))) (pv 2) (nomark _)) pa_nil))))))))), ?_⟩
    refine ⟨_, rfl, _, rfl, p, c, N, rfl, hh, by omega, by omega, fun H1 one b1 h1 lo1 hi1 => ?_⟩
    refine ⟨_, rfl, _, _, rfl, rfl, _, rfl, p, c, 2, rfl, h1, by decide, by decide, fun H2 two b2 h2 lo2 hi2 => ⟨_, _, rfl, rfl, .inl ⟨by decide, by decide⟩, _, _, rfl, rfl, ?_⟩⟩
    have b12 := b1.trans b2
    refine ⟨fun σ' H' => ∃ oth : Int, σ' = [some (.ref p), some (.int N), some (.int sh), some (.int one), some (.int oth)] ∧ H' = H2 ∧ 0 ≤ oth ∧ oth < N ∧ (one = oth + 1 ∨ oth = one + 1), ?_, ?_⟩
    · refine ⟨_, rfl, _, _, rfl, rfl, _, rfl, ite2 (fun e1 => ?_) (fun e1 => ?_)⟩
      · have e1' : one + 1 - 2 * two < 0 := of_decide_eq_true e1
        exact ⟨_, rfl, _, _, rfl, rfl, .inl ⟨by decide, by decide⟩, _, rfl, _, _, rfl, rfl, _, rfl, rfl, by omega, by omega, by omega⟩
      · have e1' : ¬ one + 1 - 2 * two < 0 := fun z => e1 (decide_eq_true z)
        refine ⟨_, rfl, _, rfl, rfl, _, rfl, ite2 (fun e2 => ?_) (fun e2 => ?_)⟩
        · have e2' : one + 1 - 2 * two = N := V.int.inj (of_decide_eq_true e2)
          exact ⟨_, rfl, _, _, rfl, rfl, .inl ⟨by decide, by decide⟩, _, rfl, _, _, rfl, rfl, _, rfl, rfl, by omega, by omega, by omega⟩
        · have e2' : ¬ one + 1 - 2 * two = N := fun z => e2 (decide_eq_true (congrArg V.int z))
          exact ⟨_, rfl, rfl, by omega, by omega, by omega⟩
    · rintro σ' H' ⟨oth, rfl, rfl, o1, o2, o3⟩
      refine ⟨_, rfl, _, rfl, _, rfl, p, c, 12, rfl, h2, by decide, by decide, fun H3 thr b3 h3 lo3 hi3 => ⟨_, rfl, _, _, rfl, rfl, (by show 3 ≤ sizeLine; decide), fun t nt => ?_⟩⟩
      have st := same_upd (o := .tup [.int one, .int oth, .bl (decide (thr < sh))]) nt
      refine q _ _ (one.toNat, oth.toNat, decide (thr < sh)) ((b12.trans b3).trans (But.of st)) (h3.same st) (trib_mk ?_) ?_
      · have ea : ((one.toNat : Nat) : Int) = one := by omega
        have eb : ((oth.toNat : Nat) : Int) = oth := by omega
        show upd H3 t _ t = some (HO.tup [V.int (one.toNat : Nat), V.int (oth.toNat : Nat), V.bl (decide (thr < sh))])
        rw [upd_same, ea, eb]
      · show one.toNat < N ∧ oth.toNat < N ∧ (one.toNat = oth.toNat + 1 ∨ oth.toNat = one.toNat + 1)
        omega
def spRows : Sp := fun vs H Q _ => ∃ (p c : Addr) (N : Nat) (most : Nat) (sh : Int), vs = [.ref p, .int N, .int most, .int sh] ∧ HandAt H p c ∧ 1 ≤ N ∧ N ≤ 12 ∧ most ≤ 60 ∧
  ∀ H' v' (rows : List Row), But p H H' → HandAt H' p c → Im H' v' (.tuple (rows.map eRow)) → rows.length ≤ most → (∀ r ∈ rows, RowOk N r) → Q v' H'
theorem sc__law_rows : FnScope ["_law_hand_here", "_law_offices", "_law_most", "_law_share", "_law_turn"] ["_law_hand_here", "_law_offices", "_law_most", "_law_share"] (defScope st__law_rows) := ⟨rfl, rfl, rfl, by decide +kernel, rfl, by decide +kernel, by decide +kernel⟩
theorem ok__law_rows (T : Txt K mg) (D__law_draw : Has P w K mg base 1 "_law_draw" ["_law_hand_here", "_law_many"] spDraw) (D__law_row : Has P w K mg base 2 "_law_row" ["_law_hand_here", "_law_offices", "_law_share"] spRow) :
    Has P w K mg base 3 "_law_rows" ["_law_hand_here", "_law_offices", "_law_most", "_law_share"] spRows := by
  obtain ⟨fd, F⟩ := T.d__law_rows
  refine ⟨_, fd, F.ok sc__law_rows (fun vs H Q E h => ?_) (fun cdv A outer s H vs Q E hr h => ?_), T.g__law_rows, F.kp, F.bindsN fun _ _ _ _ _ _ us hl => match us, hl with | [_, _, _, _], _ => rfl⟩
  · obtain ⟨p, c, N, most, sh, rfl, _⟩ := h
    rfl
  · obtain ⟨p, c, N, most, sh, rfl, hh, hN1, hN, hm, q⟩ := h
    refine ⟨_, PSs.nox (pss_cons (ps_if (pt_cmpR op_eq (pv 1) pe_int (nomark _))
      (pss_one (ps_ret (pe_tup pa_nil)))
      pss_nil)
    (pss_one (ps_ret (pe_callTy (call_tupleK K) (by rfl) T.f_tuple (by decide +kernel) (pa_cons (pe_lc (own := [("_law_turn", 4)]) rfl sc__law_rows.nd (pi_range1 rfl T.f_range (pa_cons (pe_own D__law_draw (hr.mono (by decide)) (pa_cons (pv 0) (pa_cons (pe_op op_add (pv 2) pe_int) pa_nil))) pa_nil)) (blkOk_by (by rfl)) (fun _ _ _ _ _ => (pgn (i := 4) sc__law_rows.nd)) (fun _ _ _ _ _ => pts_nil) (fun _ _ _ _ _ => (pe_own D__law_row (hr.mono (by decide)) (pa_cons (pv 0) (pa_cons (pv 1) (pa_cons (pv 3) pa_nil)))))) pa_nil))))), ?_⟩
    refine ⟨_, rfl, rfl, _, rfl, ite2 (fun e1 => ?_) (fun e1 => ?_)⟩
    · refine ⟨Nat.zero_le _, fun t nt => ?_⟩
      have st := same_upd (o := .tup []) nt
      exact q _ _ [] (But.of st) (hh.same st) (.tup upd_same .nil) (Nat.zero_le _) (fun _ h => nomatch h)
    · have hN2 : 2 ≤ N := by
        have : ¬ (N : Int) = 1 := fun z => e1 (decide_eq_true (by rw [z]))
        omega
      refine ⟨_, rfl, _, rfl, _, _, rfl, rfl, p, c, _, rfl, hh, by omega, by omega, fun H1 n b1 h1 lo1 hi1 => ?_⟩
      refine ⟨_, rfl, by omega, by omega, fun D nD => ?_⟩
      obtain ⟨_, _, hpx1, hcx1⟩ := h1.some
      have nDp : D ≠ p := (ne_of_none hpx1 nD).symm
      have nDc : D ≠ c := (ne_of_none hcx1 nD).symm
      refine lc_rangeY (lo := 0) (n := n.toNat) (fun i H' => But p H1 H' ∧ HandAt H' p c ∧ ∃ (ys : List V) (rows : List Row), H' D = some (.lst ys) ∧ ImL H' ys (rows.map eRow) ∧ rows.length = i ∧ ∀ r ∈ rows, RowOk N r) ⟨But.of (same_upd nD), h1.same (same_upd nD), [], [], upd_same, .nil, rfl, fun _ h => nomatch h⟩ (fun i H2 hi h => ?_) (fun H2 h => ?_)
      · obtain ⟨b2, h2, ys, rows, hD, dl, lr, okr⟩ := h
        obtain ⟨_, _, hpx2, _⟩ := h2.some
        refine ⟨rfl, _, rfl, _, rfl, _, rfl, p, c, N, sh, rfl, h2, hN2, hN, fun H3 v3 r3 b3 h3 d3 ok3 => ?_⟩
        have hD3 := b3 D _ nDp hD
        have tups : ∀ a xs, H3 a = some (.tup xs) → (upd H3 D (.lst (ys ++ [v3]))) a = some (.tup xs) := fun a xs e => by
          rw [upd_ne (ne_of e hD3 (by intro z; cases z))]
          exact e
        have lys : ys.length = i := by rw [dl.len, List.length_map, lr]
        refine ⟨ys, hD3, sizeLt (by omega), fun c o nc e => ?_, ?_, ys ++ [v3], rows ++ [r3], upd_same, ?_, by rw [List.length_append, lr]; rfl, fun r hr => ?_⟩
        · rw [upd_ne (ne_of_none e nD)]
          exact b3 c o nc (b2 c o nc e)
        · exact h3.upd nDp.symm nDc.symm
        · rw [List.map_append]
          exact ((dl.tups (b3.tups hpx2)).tups tups).append (.cons (d3.tups tups) .nil)
        · rcases List.mem_append.mp hr with hr | hr
          · exact okr r hr
          · rw [List.mem_singleton.mp hr]
            exact ok3
      · obtain ⟨b2, h2, ys, rows, hD, dl, lr, okr⟩ := h
        refine ⟨D, ys, rfl, .inl ⟨SqL.of hD, fun l nl => ?_⟩⟩
        have st := same_upd (o := .tup ys) nl
        exact q _ _ rows ((b1.trans b2).trans (But.of st)) (h2.same st) (.tup upd_same (dl.same st)) (by omega) okr
end
end K41
/-! K41Sheets: sheets copied along the row, all doings; their borders are the paths. -/
namespace K41
def copyTo (r : Row) (b : Bool) (sh : List Nat) : List Nat := if b = true then sh.set r.1 (sh.getD r.2.1 0) else sh
def sheetAt (N : Nat) (rows : List Row) (d : List Bool) : Nat → List Nat
  | 0 => List.range N
  | i + 1 => match rows[i]? with
    | some r => copyTo r (d.getD i false) (sheetAt N rows d i)
    | none => sheetAt N rows d i
def ledOf (N : Nat) (rows : List Row) (d : List Bool) : List (List Nat) := (List.range (rows.length + 1)).map (sheetAt N rows d)
theorem copyTo_len (r : Row) (b : Bool) (sh : List Nat) : (copyTo r b sh).length = sh.length := by
  unfold copyTo
  split
  · rw [List.length_set]
  · rfl
theorem sheetAt_len (N : Nat) (rows : List Row) (d : List Bool) : ∀ i, (sheetAt N rows d i).length = N
  | 0 => List.length_range
  | i + 1 => by
    show (match rows[i]? with | some r => copyTo r (d.getD i false) (sheetAt N rows d i) | none => sheetAt N rows d i).length = N
    split
    · rw [copyTo_len, sheetAt_len N rows d i]
    · exact sheetAt_len N rows d i
theorem sheetAt_succ {N : Nat} {rows : List Row} {d : List Bool} {i : Nat} {r : Row} (h : rows[i]? = some r) : sheetAt N rows d (i + 1) = copyTo r (d.getD i false) (sheetAt N rows d i) := by
  show (match rows[i]? with | some r => copyTo r (d.getD i false) (sheetAt N rows d i) | none => sheetAt N rows d i) = _
  rw [h]
/-! ### all doings -/
def doNext (r : Row) (d : List Bool) : List (List Bool) := (if r.2.2 = true then [] else [d ++ [false]]) ++ [d ++ [true]]
def doStep (acc : List (List Bool)) (r : Row) : List (List Bool) := acc.flatMap (doNext r)
def doingsOf (rows : List Row) : List (List Bool) := rows.foldl doStep [[]]
theorem doNext_len (r : Row) (d : List Bool) : (doNext r d).length ≤ 2 := by
  unfold doNext
  split <;> simp
theorem flat_len {α β : Type} {f : α → List β} {k : Nat} (h : ∀ x, (f x).length ≤ k) : ∀ l : List α, (l.flatMap f).length ≤ l.length * k
  | [] => by simp
  | x :: l => by
    rw [List.flatMap_cons, List.length_append, List.length_cons, Nat.succ_mul]
    have h1 := h x
    have h2 := flat_len h l
    omega
theorem doStep_len (acc : List (List Bool)) (r : Row) : (doStep acc r).length ≤ acc.length * 2 := flat_len (doNext_len r) acc
theorem doings_len0 : ∀ (rows : List Row) (acc : List (List Bool)), (rows.foldl doStep acc).length ≤ acc.length * 2 ^ rows.length
  | [], acc => by simp
  | r :: rows, acc => by
    have h1 := doings_len0 rows (doStep acc r)
    have h2 := doStep_len acc r
    show (rows.foldl doStep (doStep acc r)).length ≤ acc.length * 2 ^ (rows.length + 1)
    rw [Nat.pow_succ, Nat.mul_comm (2 ^ rows.length) 2, ← Nat.mul_assoc]
    exact Nat.le_trans h1 (Nat.mul_le_mul_right _ h2)
theorem doings_len {rows : List Row} (h : rows.length ≤ 8) : (doingsOf rows).length ≤ 256 := by
  have h1 := doings_len0 rows [[]]
  have h2 : 2 ^ rows.length ≤ 2 ^ 8 := Nat.pow_le_pow_right (by decide) h
  rw [List.length_singleton, Nat.one_mul] at h1
  exact Nat.le_trans h1 h2
/-- a doing of the rows -/
def IsDo (rows : List Row) (d : List Bool) : Prop := d.length = rows.length ∧ ∀ (i : Nat) (r : Row), rows[i]? = some r → r.2.2 = true → d[i]? = some true
theorem IsDo.cons {r : Row} {rows : List Row} {b : Bool} {d : List Bool} : IsDo (r :: rows) (b :: d) ↔ (r.2.2 = true → b = true) ∧ IsDo rows d := by
  constructor
  · rintro ⟨h1, h2⟩
    refine ⟨fun h => Option.some.inj (h2 0 r rfl h), Nat.succ.inj h1, fun i q hq hs => h2 (i + 1) q hq hs⟩
  · rintro ⟨h1, h2, h3⟩
    refine ⟨congrArg (· + 1) h2, fun i q hq hs => ?_⟩
    cases i with
    | zero =>
      cases Option.some.inj hq
      exact congrArg some (h1 hs)
    | succ i => exact h3 i q hq hs
theorem mem_doNext {r : Row} {a e : List Bool} : e ∈ doNext r a ↔ ∃ b, (r.2.2 = true → b = true) ∧ e = a ++ [b] := by
  unfold doNext
  rw [List.mem_append]
  constructor
  · rintro (h | h)
    · split at h
      · cases h
      · rename_i hs
        exact ⟨false, fun z => absurd z hs, List.mem_singleton.mp h⟩
    · exact ⟨true, fun _ => rfl, List.mem_singleton.mp h⟩
  · rintro ⟨b, hb, rfl⟩
    cases b with
    | true => exact .inr (List.mem_singleton.mpr rfl)
    | false =>
      left
      rw [if_neg (fun z => absurd (hb z) (by decide))]
      exact List.mem_singleton.mpr rfl
theorem mem_doings0 : ∀ (rows : List Row) (acc : List (List Bool)) (d : List Bool), d ∈ rows.foldl doStep acc ↔ ∃ a ∈ acc, ∃ e, d = a ++ e ∧ IsDo rows e
  | [], acc, d => by
    constructor
    · intro h
      exact ⟨d, h, [], (List.append_nil d).symm, rfl, fun i r h => by simp at h⟩
    · rintro ⟨a, ha, e, rfl, h, _⟩
      have : e = [] := List.length_eq_zero_iff.mp h
      rw [this, List.append_nil]
      exact ha
  | r :: rows, acc, d => by
    show d ∈ rows.foldl doStep (doStep acc r) ↔ _
    rw [mem_doings0 rows (doStep acc r) d]
    constructor
    · rintro ⟨a, ha, e, rfl, he⟩
      obtain ⟨a0, ha0, h⟩ := List.mem_flatMap.mp ha
      obtain ⟨b, hb, rfl⟩ := mem_doNext.mp h
      exact ⟨a0, ha0, b :: e, by rw [List.append_assoc]; rfl, IsDo.cons.mpr ⟨hb, he⟩⟩
    · rintro ⟨a, ha, e, rfl, he⟩
      cases e with
      | nil => exact absurd he.1 (by simp)
      | cons b e =>
        obtain ⟨hb, he'⟩ := IsDo.cons.mp he
        exact ⟨a ++ [b], List.mem_flatMap.mpr ⟨a, ha, mem_doNext.mpr ⟨b, hb, rfl⟩⟩, e, by rw [List.append_assoc]; rfl, he'⟩
theorem mem_doings {rows : List Row} {d : List Bool} : d ∈ doingsOf rows ↔ IsDo rows d := by
  unfold doingsOf
  rw [mem_doings0]
  constructor
  · rintro ⟨a, ha, e, rfl, h⟩
    rw [List.mem_singleton.mp ha]
    exact h
  · intro h
    exact ⟨[], List.mem_singleton.mpr rfl, d, rfl, h⟩
theorem doings_snoc (rows : List Row) (r : Row) : doingsOf (rows ++ [r]) = doStep (doingsOf rows) r := by
  unfold doingsOf
  rw [List.foldl_append]
  rfl
/-! ### borders -/
/-- border b stands at cut c in the sheets -/
def IsCut (N : Nat) (sh : List Nat) (b c : Nat) : Prop := sh.length = N ∧ c ≤ N ∧ ∀ i v, sh[i]? = some v → (v < b ↔ i < c)
theorem isCut_range {N b : Nat} (h : b ≤ N) : IsCut N (List.range N) b b := by
  refine ⟨List.length_range, h, fun i v hv => ?_⟩
  have hi : i < N := by
    have := (List.getElem?_eq_some_iff.mp hv).1
    rw [List.length_range] at this
    exact this
  rw [List.getElem?_range hi] at hv
  cases hv
  exact Iff.rfl
theorem isCut_copy {N b c : Nat} {sh : List Nat} {r : Row} (x : Bool) (h : IsCut N sh b c) (hr : RowOk N r) : ∃ c', IsCut N (copyTo r x sh) b c' ∧ (c' : Int) = mv (stepOf r) x c := by
  obtain ⟨h1, h2, h3⟩ := h
  obtain ⟨r1, r2, r3⟩ := hr
  cases x with
  | false => exact ⟨c, ⟨h1, h2, h3⟩, rfl⟩
  | true =>
    obtain ⟨vy, hvy⟩ : ∃ v, sh[r.2.1]? = some v := ⟨_, List.getElem?_eq_getElem (by omega)⟩
    obtain ⟨vx, hvx⟩ : ∃ v, sh[r.1]? = some v := ⟨_, List.getElem?_eq_getElem (by omega)⟩
    have hd : sh.getD r.2.1 0 = vy := by
      rw [List.getD_eq_getElem?_getD, hvy]
      rfl
    have e : copyTo r true sh = sh.set r.1 vy := by
      unfold copyTo
      rw [if_pos rfl, hd]
    have hy := h3 _ _ hvy
    have hx := h3 _ _ hvx
    have hget : ∀ i v, (sh.set r.1 vy)[i]? = some v → (i = r.1 ∧ v = vy) ∨ (i ≠ r.1 ∧ sh[i]? = some v) := fun i v hv => by
      rw [List.getElem?_set] at hv
      split at hv
      · rename_i e
        rw [if_pos (by omega)] at hv
        exact .inl ⟨e.symm, (Option.some.inj hv).symm⟩
      · rename_i e
        exact .inr ⟨fun z => e z.symm, hv⟩
    rw [e]
    by_cases hl : r.1 < r.2.1
    · -- a left row
      have es : stepOf r = ⟨true, r.2.1, r.2.2⟩ := by
        unfold stepOf
        rw [decide_eq_true hl, Nat.max_eq_right (Nat.le_of_lt hl)]
      by_cases hc : r.2.1 = c
      · refine ⟨c - 1, ⟨by rw [List.length_set]; exact h1, by omega, fun i v hv => ?_⟩, ?_⟩
        · rcases hget i v hv with ⟨rfl, rfl⟩ | ⟨ni, hv'⟩
          · omega
          · have := h3 i v hv'
            omega
        · rw [es]
          unfold mv
          rw [if_pos ⟨rfl, by show (r.2.1 : Int) = c; omega⟩, if_pos rfl]
          omega
      · refine ⟨c, ⟨by rw [List.length_set]; exact h1, h2, fun i v hv => ?_⟩, ?_⟩
        · rcases hget i v hv with ⟨rfl, rfl⟩ | ⟨ni, hv'⟩
          · omega
          · exact h3 i v hv'
        · rw [es]
          unfold mv
          rw [if_neg (fun z => hc (by have : (r.2.1 : Int) = c := z.2; omega))]
    · have es : stepOf r = ⟨false, r.1, r.2.2⟩ := by
        unfold stepOf
        rw [decide_eq_false hl, Nat.max_eq_left (by omega)]
      by_cases hc : r.1 = c
      · refine ⟨c + 1, ⟨by rw [List.length_set]; exact h1, by omega, fun i v hv => ?_⟩, ?_⟩
        · rcases hget i v hv with ⟨rfl, rfl⟩ | ⟨ni, hv'⟩
          · omega
          · have := h3 i v hv'
            omega
        · rw [es]
          unfold mv
          rw [if_pos ⟨rfl, by show (r.1 : Int) = c; omega⟩, if_neg (by intro z; cases z)]
          omega
      · refine ⟨c, ⟨by rw [List.length_set]; exact h1, h2, fun i v hv => ?_⟩, ?_⟩
        · rcases hget i v hv with ⟨rfl, rfl⟩ | ⟨ni, hv'⟩
          · omega
          · exact h3 i v hv'
        · rw [es]
          unfold mv
          rw [if_neg (fun z => hc (by have : (r.1 : Int) = c := z.2; omega))]
section
variable {N : Nat} {rows : List Row} {d : List Bool}
theorem isCut_at (hr : ∀ r ∈ rows, RowOk N r) {b : Nat} (hb : b ≤ N) : ∀ m, m ≤ rows.length → ∃ c, IsCut N (sheetAt N rows d m) b c ∧ (c : Int) = pth (stepsOf rows) d b m
  | 0, _ => ⟨b, isCut_range hb, rfl⟩
  | m + 1, h => by
    obtain ⟨c, hc, e⟩ := isCut_at hr hb m (by omega)
    have hm : rows[m]? = some (rows[m]'(by omega)) := List.getElem?_eq_getElem _
    obtain ⟨c', hc', e'⟩ := isCut_copy (d.getD m false) hc (hr _ (List.mem_of_getElem? hm))
    refine ⟨c', by rw [sheetAt_succ hm]; exact hc', ?_⟩
    have hs : (stepsOf rows)[m]? = some (stepOf (rows[m]'(by omega))) := by
      unfold stepsOf
      rw [List.getElem?_map, hm]
      rfl
    rw [pth_succ hs, ← e]
    exact e'
/-- the cuts of all borders of some sheets -/
def cutsOf (sh : List Nat) : List Int := (List.range (sh.length + 1)).map fun b => ((sh.filter fun v => decide (v < b)).length : Int)
theorem filter_cut : ∀ {sh : List Nat} {b c : Nat}, c ≤ sh.length → (∀ i v, sh[i]? = some v → (v < b ↔ i < c)) → (sh.filter fun v => decide (v < b)).length = c
  | [], _, c, hc, _ => by
    have : c = 0 := by simpa using hc
    rw [this]
    rfl
  | x :: sh, b, c, hc, h => by
    have h0 := h 0 x rfl
    cases c with
    | zero =>
      have hx : ¬ x < b := fun z => absurd (h0.mp z) (Nat.lt_irrefl 0)
      rw [List.filter_cons_of_neg (p := fun v => decide (v < b)) (by rw [decide_eq_false hx]; decide)]
      exact filter_cut (Nat.zero_le _) fun i v hv => by
        have := h (i + 1) v hv
        omega
    | succ c =>
      have hx : x < b := h0.mpr (Nat.succ_pos c)
      rw [List.filter_cons_of_pos (p := fun v => decide (v < b)) (decide_eq_true hx), List.length_cons]
      refine congrArg (· + 1) (filter_cut (Nat.le_of_succ_le_succ hc) fun i v hv => ?_)
      have := h (i + 1) v hv
      omega
theorem cutsOf_at (hr : ∀ r ∈ rows, RowOk N r) {m : Nat} (hm : m ≤ rows.length) : cutsOf (sheetAt N rows d m) = (List.range (N + 1)).map fun b => pth (stepsOf rows) d b m := by
  unfold cutsOf
  rw [sheetAt_len]
  apply List.map_congr_left
  intro b hb
  have := List.mem_range.mp hb
  obtain ⟨c, ⟨h1, h2, h3⟩, e⟩ := isCut_at (d := d) hr (show b ≤ N by omega) m hm
  rw [← e, filter_cut (by omega) h3]
/-- a find is true -/
def areTrue (N : Nat) (rows : List Row) (d : List Bool) (fs : List Find) : Bool := fs.all fun f => decide ((sheetAt N rows d f.1).getD f.2.1 0 = f.2.2)
theorem find_true (hr : ∀ r ∈ rows, RowOk N r) {f : Find} (hf : FindOk N rows.length f) :
    (sheetAt N rows d f.1).getD f.2.1 0 = f.2.2 ↔ pth (stepsOf rows) d f.2.2 f.1 ≤ f.2.1 ∧ (f.2.1 : Int) + 1 ≤ pth (stepsOf rows) d (f.2.2 + 1) f.1 := by
  obtain ⟨f1, f2, f3⟩ := hf
  obtain ⟨c, ⟨h1, h2, h3⟩, e⟩ := isCut_at (d := d) hr (Nat.le_of_lt f3) f.1 f1
  obtain ⟨c', ⟨h1', h2', h3'⟩, e'⟩ := isCut_at (d := d) hr (show f.2.2 + 1 ≤ N from f3) f.1 f1
  obtain ⟨v, hv⟩ : ∃ v, (sheetAt N rows d f.1)[f.2.1]? = some v := ⟨_, List.getElem?_eq_getElem (by omega)⟩
  have eg : (sheetAt N rows d f.1).getD f.2.1 0 = v := by
    rw [List.getD_eq_getElem?_getD, hv]
    rfl
  rw [eg, ← e, ← e']
  have a := h3 _ _ hv
  have b := h3' _ _ hv
  omega
theorem good_iff {fs : List Find} (hr : ∀ r ∈ rows, RowOk N r) (hf : ∀ f ∈ fs, FindOk N rows.length f) : (IsDo rows d ∧ areTrue N rows d fs = true) ↔ Good (stepsOf rows) fs d := by
  constructor
  · rintro ⟨⟨h1, h2⟩, h3⟩
    refine ⟨⟨by rw [stepsOf_len]; exact h1, fun m s hs hsure => ?_⟩, fun f hfm => ?_⟩
    · unfold stepsOf at hs
      rw [List.getElem?_map] at hs
      cases e : rows[m]? with
      | none =>
        rw [e] at hs
        cases hs
      | some r =>
        rw [e] at hs
        cases hs
        rw [List.getD_eq_getElem?_getD, h2 m r e hsure]
        rfl
    · unfold areTrue at h3
      rw [List.all_eq_true] at h3
      exact (find_true hr (hf f hfm)).mp (of_decide_eq_true (h3 f hfm))
  · rintro ⟨⟨h1, h2⟩, h3⟩
    rw [stepsOf_len] at h1
    refine ⟨⟨h1, fun i r hri hs => ?_⟩, ?_⟩
    · have hs' : (stepsOf rows)[i]? = some (stepOf r) := by
        unfold stepsOf
        rw [List.getElem?_map, hri]
        rfl
      have := h2 i _ hs' hs
      have hi : i < d.length := by
        rw [h1]
        exact (List.getElem?_eq_some_iff.mp hri).1
      rw [List.getD_eq_getElem?_getD, List.getElem?_eq_getElem hi] at this
      rw [List.getElem?_eq_getElem hi]
      exact congrArg some this
    · unfold areTrue
      rw [List.all_eq_true]
      intro f hfm
      exact decide_eq_true ((find_true hr (hf f hfm)).mpr (h3 f hfm))
end
end K41
/-! K41Final: seen from the other end; the greatest cuts are the greatest over all good doings. -/
namespace K41
theorem end_of {N : Nat} {sts : List Stp} {fs : List Find} (X : Fit N sts fs) : ∀ (n : Nat) (s : FS), meas sts.length N s ≤ n → Go N sts fs [] [] s → ∃ s', Go N sts fs [] [] s' ∧ (s'.wait = [] ∨ s'.den ≠ none) := by
  intro n
  induction n with
  | zero =>
    intro s hn G
    by_cases hw : s.wait = []
    · exact ⟨s, G, .inl hw⟩
    · have := G.falls X hw
      omega
  | succ n ih =>
    intro s hn G
    by_cases hw : s.wait = []
    · exact ⟨s, G, .inl hw⟩
    · have := G.falls X hw
      exact ih _ (by omega) (G.step X)
theorem low_cases {N : Nat} {rows : List Row} {fs : List Find} (I : InpOk N rows fs) :
    (∃ L, Least N (stepsOf rows) fs L ∧ lowTab N rows fs = some (tabOf N rows.length L)) ∨ (lowTab N rows fs = none ∧ ∀ d, ¬ Good (stepsOf rows) fs d) := by
  obtain ⟨s, G, h⟩ := end_of I.fit _ _ (Nat.le_refl _) (Go.first I.fit)
  cases e : s.den with
  | none =>
    have X : Least N (stepsOf rows) fs s.C := G.least I.fit (by
      rcases h with h | h
      · exact h
      · exact absurd e h) e
    exact .inl ⟨s.C, X, lowTab_some X⟩
  | some q =>
    have ng := G.none_good I.fit (by rw [e]; intro z; cases z)
    refine .inr ⟨lowTab_none ?_, ng⟩
    rintro ⟨L, X⟩
    exact ng _ (X.good I.fit.finds)
theorem low_some_iff {N : Nat} {rows : List Row} {fs : List Find} (I : InpOk N rows fs) : (lowTab N rows fs).isSome = true ↔ ∃ d, Good (stepsOf rows) fs d := by
  rcases low_cases I with ⟨L, X, e⟩ | ⟨e, h⟩
  · rw [e]
    exact ⟨fun _ => ⟨_, X.good I.fit.finds⟩, fun _ => rfl⟩
  · rw [e]
    exact ⟨fun z => (nomatch z), fun ⟨d, hd⟩ => absurd hd (h d)⟩
/-! ### seen from the other end -/
theorem turnRow_turnRow {N : Nat} {r : Row} (h : RowOk N r) : turnRow N (turnRow N r) = r := by
  obtain ⟨x, y, s⟩ := r
  obtain ⟨h1, h2, h3⟩ := h
  dsimp only at h1 h2
  show (N - 1 - (N - 1 - x), N - 1 - (N - 1 - y), s) = (x, y, s)
  have e1 : N - 1 - (N - 1 - x) = x := by omega
  have e2 : N - 1 - (N - 1 - y) = y := by omega
  rw [e1, e2]
theorem turnFind_turnFind {N M : Nat} {f : Find} (h : FindOk N M f) : turnFind N (turnFind N f) = f := by
  obtain ⟨x, y, s⟩ := f
  obtain ⟨h1, h2, h3⟩ := h
  dsimp only at h1 h2 h3
  show (x, N - 1 - (N - 1 - y), N - 1 - (N - 1 - s)) = (x, y, s)
  have e1 : N - 1 - (N - 1 - y) = y := by omega
  have e2 : N - 1 - (N - 1 - s) = s := by omega
  rw [e1, e2]
theorem turnRows2 {N : Nat} : ∀ {rows : List Row}, (∀ r ∈ rows, RowOk N r) → (rows.map (turnRow N)).map (turnRow N) = rows
  | [], _ => rfl
  | r :: rows, h => by
    rw [List.map_cons, List.map_cons, turnRow_turnRow (h r List.mem_cons_self), turnRows2 fun q hq => h q (List.mem_cons_of_mem _ hq)]
theorem turnFinds2 {N M : Nat} : ∀ {fs : List Find}, (∀ f ∈ fs, FindOk N M f) → (fs.map (turnFind N)).map (turnFind N) = fs
  | [], _ => rfl
  | r :: rows, h => by
    rw [List.map_cons, List.map_cons, turnFind_turnFind (h r List.mem_cons_self), turnFinds2 fun q hq => h q (List.mem_cons_of_mem _ hq)]
theorem mv_turn {N : Nat} {r : Row} (h : RowOk N r) (x : Bool) (c : Int) : mv (stepOf (turnRow N r)) x ((N : Int) - c) = (N : Int) - mv (stepOf r) x c := by
  obtain ⟨p, q, s⟩ := r
  obtain ⟨h1, h2, h3⟩ := h
  dsimp only at h1 h2 h3
  by_cases hl : p < q
  · have e1 : stepOf (p, q, s) = ⟨true, q, s⟩ := by
      unfold stepOf
      dsimp only
      rw [decide_eq_true hl, Nat.max_eq_right (Nat.le_of_lt hl)]
    have e2 : stepOf (turnRow N (p, q, s)) = ⟨false, N - 1 - p, s⟩ := by
      unfold stepOf turnRow
      dsimp only
      rw [decide_eq_false (by omega), Nat.max_eq_left (by omega)]
    rw [e1, e2]
    unfold mv
    cases x
    · simp
    · simp
      split <;> split <;> omega
  · have e1 : stepOf (p, q, s) = ⟨false, p, s⟩ := by
      unfold stepOf
      dsimp only
      rw [decide_eq_false hl, Nat.max_eq_left (by omega)]
    have e2 : stepOf (turnRow N (p, q, s)) = ⟨true, N - 1 - q, s⟩ := by
      unfold stepOf turnRow
      dsimp only
      rw [decide_eq_true (by omega), Nat.max_eq_right (by omega)]
    rw [e1, e2]
    unfold mv
    cases x
    · simp
    · simp
      split <;> split <;> omega
theorem pth_turn {N : Nat} {rows : List Row} (hr : ∀ r ∈ rows, RowOk N r) (d : List Bool) {b : Nat} (hb : b ≤ N) : ∀ m, pth (stepsOf (rows.map (turnRow N))) d b m = (N : Int) - pth (stepsOf rows) d (N - b) m
  | 0 => by
    show (b : Int) = (N : Int) - ((N - b : Nat) : Int)
    omega
  | m + 1 => by
    have ih := pth_turn hr d hb m
    cases e : rows[m]? with
    | none =>
      have e1 : (stepsOf rows)[m]? = none := by
        unfold stepsOf
        rw [List.getElem?_map, e]
        rfl
      have e2 : (stepsOf (rows.map (turnRow N)))[m]? = none := by
        unfold stepsOf
        rw [List.getElem?_map, List.getElem?_map, e]
        rfl
      show (match (stepsOf (rows.map (turnRow N)))[m]? with | some s => mv s (d.getD m false) (pth (stepsOf (rows.map (turnRow N))) d b m) | none => pth (stepsOf (rows.map (turnRow N))) d b m) = (N : Int) - (match (stepsOf rows)[m]? with | some s => mv s (d.getD m false) (pth (stepsOf rows) d (N - b) m) | none => pth (stepsOf rows) d (N - b) m)
      rw [e1, e2]
      exact ih
    | some r =>
      have e1 : (stepsOf rows)[m]? = some (stepOf r) := by
        unfold stepsOf
        rw [List.getElem?_map, e]
        rfl
      have e2 : (stepsOf (rows.map (turnRow N)))[m]? = some (stepOf (turnRow N r)) := by
        unfold stepsOf
        rw [List.getElem?_map, List.getElem?_map, e]
        rfl
      rw [pth_succ e1, pth_succ e2, ih]
      exact mv_turn (hr r (List.mem_of_getElem? e)) _ _
theorem good_turn {N : Nat} {rows : List Row} {fs : List Find} (hr : ∀ r ∈ rows, RowOk N r) (hf : ∀ f ∈ fs, FindOk N rows.length f) {d : List Bool} (G : Good (stepsOf rows) fs d) : Good (stepsOf (rows.map (turnRow N))) (fs.map (turnFind N)) d where
  doing := by
    refine ⟨?_, fun m s hs hsure => ?_⟩
    · rw [G.doing.len, stepsOf_len, stepsOf_len, List.length_map]
    · unfold stepsOf at hs
      rw [List.getElem?_map, List.getElem?_map] at hs
      cases e : rows[m]? with
      | none =>
        rw [e] at hs
        cases hs
      | some r =>
        rw [e] at hs
        cases hs
        refine G.doing.sure m (stepOf r) ?_ hsure
        unfold stepsOf
        rw [List.getElem?_map, e]
        rfl
  finds := fun f' hf' => by
    obtain ⟨f, hfm, rfl⟩ := List.mem_map.mp hf'
    obtain ⟨h1, h2, h3⟩ := hf f hfm
    obtain ⟨g1, g2⟩ := G.finds f hfm
    show pth (stepsOf (rows.map (turnRow N))) d (N - 1 - f.2.2) f.1 ≤ ((N - 1 - f.2.1 : Nat) : Int) ∧ ((N - 1 - f.2.1 : Nat) : Int) + 1 ≤ pth (stepsOf (rows.map (turnRow N))) d (N - 1 - f.2.2 + 1) f.1
    rw [pth_turn hr d (by omega), pth_turn hr d (by omega)]
    have e1 : N - (N - 1 - f.2.2) = f.2.2 + 1 := by omega
    have e2 : N - (N - 1 - f.2.2 + 1) = f.2.2 := by omega
    rw [e1, e2]
    omega
theorem good_turn_iff {N : Nat} {rows : List Row} {fs : List Find} (I : InpOk N rows fs) {d : List Bool} : Good (stepsOf (rows.map (turnRow N))) (fs.map (turnFind N)) d ↔ Good (stepsOf rows) fs d := by
  refine ⟨fun G => ?_, good_turn I.rowsOk I.findsOk⟩
  have := good_turn I.turn.rowsOk I.turn.findsOk G
  rw [turnRows2 I.rowsOk, turnFinds2 I.findsOk] at this
  exact this
theorem fit_turn {N : Nat} {rows : List Row} {fs : List Find} (I : InpOk N rows fs) : (lowTab N (rows.map (turnRow N)) (fs.map (turnFind N))).isSome = (lowTab N rows fs).isSome := by
  rw [Bool.eq_iff_iff, low_some_iff I, low_some_iff I.turn]
  exact ⟨fun ⟨d, h⟩ => ⟨d, (good_turn_iff I).mp h⟩, fun ⟨d, h⟩ => ⟨d, (good_turn_iff I).mpr h⟩⟩
theorem turnTab2 (N : Nat) (t : List (List Int)) : turnTab N (turnTab N t) = t := by
  unfold turnTab
  rw [List.map_map]
  refine (List.map_congr_left fun c _ => ?_).trans (List.map_id t)
  show ((c.reverse.map fun x => (N : Int) - x).reverse.map fun x => (N : Int) - x) = c
  rw [← List.map_reverse, List.reverse_reverse, List.map_map]
  refine (List.map_congr_left fun x _ => ?_).trans (List.map_id c)
  show (N : Int) - ((N : Int) - x) = x
  omega
theorem high_turned (N : Nat) (rows : List Row) (fs : List Find) : (highTab N rows fs).map (turnTab N) = lowTab N (rows.map (turnRow N)) (fs.map (turnFind N)) := by
  unfold highTab
  cases lowTab N (rows.map (turnRow N)) (fs.map (turnFind N)) with
  | none => rfl
  | some t => exact congrArg some (turnTab2 N t)
theorem high_of_turned {N : Nat} {rows : List Row} {fs : List Find} (I : InpOk N rows fs) : highTab N (rows.map (turnRow N)) (fs.map (turnFind N)) = (lowTab N rows fs).map (turnTab N) := by
  unfold highTab
  rw [turnRows2 I.rowsOk, turnFinds2 I.findsOk]
theorem range_rev (N : Nat) (f : Nat → Int) : ((List.range (N + 1)).map f).reverse = (List.range (N + 1)).map fun b => f (N - b) := by
  refine List.ext_getElem (by simp) fun i h1 h2 => ?_
  rw [List.getElem_reverse, List.getElem_map, List.getElem_map, List.getElem_range, List.getElem_range, List.length_map, List.length_range]
  congr 1
theorem turnTab_tabOf (N M : Nat) (L : Nat → Nat → Int) : turnTab N (tabOf N M L) = tabOf N M fun m b => (N : Int) - L m (N - b) := by
  unfold turnTab tabOf
  rw [List.map_map]
  refine List.map_congr_left fun m _ => ?_
  show (((List.range (N + 1)).map fun b => L m b).reverse.map fun x => (N : Int) - x) = (List.range (N + 1)).map fun b => (N : Int) - L m (N - b)
  rw [range_rev N (fun b => L m b), List.map_map]
  rfl
/-! ### the greatest over all good doings -/
def goodOf (N : Nat) (rows : List Row) (fs : List Find) : List (List Bool) := (doingsOf rows).filter fun d => areTrue N rows d fs
theorem mem_goodOf {N : Nat} {rows : List Row} {fs : List Find} (I : InpOk N rows fs) {d : List Bool} : d ∈ goodOf N rows fs ↔ Good (stepsOf rows) fs d := by
  unfold goodOf
  rw [List.mem_filter, mem_doings]
  exact good_iff I.rowsOk I.findsOk
theorem high_spec {N : Nat} {rows : List Row} {fs : List Find} (I : InpOk N rows fs) :
    (goodOf N rows fs = [] ∧ highTab N rows fs = none) ∨ (goodOf N rows fs ≠ [] ∧ ∃ E : Nat → Nat → Int, highTab N rows fs = some (tabOf N rows.length E) ∧
      ∀ m b, m ≤ rows.length → b ≤ N → (∀ d ∈ goodOf N rows fs, pth (stepsOf rows) d b m ≤ E m b) ∧ ∃ d ∈ goodOf N rows fs, pth (stepsOf rows) d b m = E m b) := by
  have IT := I.turn
  rcases low_cases IT with ⟨L, X, e⟩ | ⟨e, h⟩
  · right
    have g := (good_turn_iff I).mp (X.good IT.fit.finds)
    refine ⟨fun z => ?_, fun m b => (N : Int) - L m (N - b), ?_, fun m b hm hb => ⟨fun d hd => ?_, _, (mem_goodOf I).mpr g, ?_⟩⟩
    · have := (mem_goodOf I).mpr g
      rw [z] at this
      cases this
    · unfold highTab
      rw [e, List.length_map]
      exact congrArg some (turnTab_tabOf _ _ _)
    · have gd := (good_turn_iff I).mpr ((mem_goodOf I).mp hd)
      have := X.least _ (gd.closed (N := N) fun s hs => (IT.fit.cuts s hs).1) m (N - b) (by rw [stepsOf_len, List.length_map]; exact hm) (by omega)
      rw [pth_turn I.rowsOk d (by omega)] at this
      have eb : N - (N - b) = b := by omega
      rw [eb] at this
      show pth (stepsOf rows) d b m ≤ (N : Int) - L m (N - b)
      omega
    · have := X.path (b := N - b) (by omega) m (by rw [stepsOf_len, List.length_map]; exact hm)
      rw [pth_turn I.rowsOk _ (by omega)] at this
      have eb : N - (N - b) = b := by omega
      rw [eb] at this
      show pth (stepsOf rows) _ b m = (N : Int) - L m (N - b)
      omega
  · left
    refine ⟨?_, ?_⟩
    · cases eg : goodOf N rows fs with
      | nil => rfl
      | cons d l =>
        have : d ∈ goodOf N rows fs := by
          rw [eg]
          exact List.mem_cons_self
        exact absurd ((good_turn_iff I).mpr ((mem_goodOf I).mp this)) (h d)
    · unfold highTab
      rw [e]
      rfl
end K41
/-! K41W11: the law's sheets and doings. -/
namespace K41
open PySem PySem.Spec PyProof.Rows L2
def zs (sh : List Nat) : List Int := sh.map Int.ofNat
def eSheet (sh : List Nat) : PyData := eCuts (zs sh)
theorem noL_sheet (sh : List Nat) : noL (eSheet sh) = true := noL_cuts _
theorem zs_len (sh : List Nat) : (zs sh).length = sh.length := List.length_map _
theorem zs_get {sh : List Nat} {j v : Nat} (h : sh[j]? = some v) : ((zs sh).map V.int)[j]? = some (.int v) := by
  unfold zs
  rw [List.map_map, List.getElem?_map, h]
  rfl
theorem zs_set (sh : List Nat) (j v : Nat) : ((zs sh).map V.int).set j (.int v) = (zs (sh.set j v)).map V.int := by
  unfold zs
  rw [List.map_set, List.map_set]
  rfl
theorem cuts_at {L : Addr → Prop} {H : Hp} {v : V} {c : List Int} (h : Dt L H v (eCuts c)) : ∃ a, v = .ref a ∧ H a = some (.tup (c.map V.int)) := by
  obtain ⟨a, xs, rfl, ha, d⟩ := h.tupE
  rw [d.ints] at ha
  exact ⟨a, rfl, ha⟩
theorem cuts_mk {L : Addr → Prop} {H : Hp} {a : Addr} {c : List Int} (h : H a = some (.tup (c.map V.int))) : Dt L H (.ref a) (eCuts c) := .tup h (DtL.ofInts c)
/-- what is new since H0, the list f apart -/
def LL (H0 : Hp) (f : Addr) : Addr → Prop := fun a => H0 a = none ∧ a ≠ f
/-- f.append(y): y from a heap that has grown -/
theorem app_dt {H0 H1 H2 : Hp} {f : Addr} {acc : List V} {es : List PyData} {y : V} {e : PyData} (nf : H0 f = none) (s1 : Same H0 H1) (h1 : H1 f = some (.lst acc)) (d1 : DtL (LL H0 f) H1 acc es) (s2 : Same H1 H2) (dy : Dt (LL H0 f) H2 y e) :
    Same H0 (upd H2 f (.lst (acc ++ [y]))) ∧ DtL (LL H0 f) (upd H2 f (.lst (acc ++ [y]))) (acc ++ [y]) (es ++ [e]) := by
  have hf2 := s2 _ _ h1
  have nl : ∀ a xs, LL H0 f a → H2 a = some (HO.lst xs) → (upd H2 f (.lst (acc ++ [y]))) a = some (.lst xs) := fun a xs ha e => by
    rw [upd_ne ha.2]
    exact e
  have nt : ∀ a xs, H2 a = some (HO.tup xs) → (upd H2 f (.lst (acc ++ [y]))) a = some (.tup xs) := fun a xs e => by
    rw [upd_ne (ne_of e hf2 (by intro z; cases z))]
    exact e
  exact ⟨same_set (s1.trans s2) nf, DtL.append (DtL.to (fun _ z => z) nt nl _ _ (d1.same s2)) (.cons (Dt.to (fun _ z => z) nt nl _ _ dy) .nil)⟩
theorem LL.new {H0 H1 : Hp} {f a : Addr} {acc : List V} (s1 : Same H0 H1) (h1 : H1 f = some (.lst acc)) (h : H1 a = none) : LL H0 f a := ⟨s1.free h, fun z => by rw [z, h1] at h; cases h⟩
theorem LL.tonew {H0 : Hp} {f a : Addr} (h : LL H0 f a) : New H0 a := h.1
section
variable {P : Program} {w : World} {K : PySem.W.Frag} {mg : Str → Option Value} {base : Heap}
def spSomeDoing : Sp := fun vs H Q _ => ∃ (p c : Addr) (vr : V) (rows : List Row), vs = [.ref p, vr] ∧ HandAt H p c ∧ Im H vr (.tuple (rows.map eRow)) ∧ rows.length ≤ 60 ∧
  ∀ H' v' (d : List Bool), But p H H' → HandAt H' p c → Im H' v' (eDoing d) → IsDo rows d → Q v' H'
theorem sc__law_some_doing : FnScope ["_law_hand_here", "_law_rows_here", "_law_row_here"] ["_law_hand_here", "_law_rows_here"] (defScope st__law_some_doing) := ⟨rfl, rfl, rfl, by decide +kernel, rfl, by decide +kernel, by decide +kernel⟩
theorem ok__law_some_doing (T : Txt K mg) (D__law_draw : Has P w K mg base 1 "_law_draw" ["_law_hand_here", "_law_many"] spDraw) :
    Has P w K mg base 2 "_law_some_doing" ["_law_hand_here", "_law_rows_here"] spSomeDoing := by
  obtain ⟨fd, F⟩ := T.d__law_some_doing
  refine ⟨_, fd, F.ok sc__law_some_doing (fun vs H Q E h => ?_) (fun cdv A outer s H vs Q E hr h => ?_), T.g__law_some_doing, F.kp, F.bindsN fun _ _ _ _ _ _ us hl => match us, hl with | [_, _], _ => rfl⟩
  · obtain ⟨p, c, vr, rows, rfl, _⟩ := h
    rfl
  · obtain ⟨p, c, vr, rows, rfl, hh, hv, hlen, q⟩ := h
    refine ⟨_, PSs.nox (pss_one (ps_ret (pe_callTy (call_tupleK K) (by rfl) T.f_tuple (by decide +kernel) (pa_cons (pe_lc (own := [("_law_row_here", 2)]) rfl sc__law_some_doing.nd (pi_tupK K (pv 1)) (blkOk_by (by rfl)) (fun _ _ _ _ _ => (pgn (i := 2) sc__law_some_doing.nd)) (fun _ _ _ _ _ => pts_nil) (fun _ _ _ _ _ => (pe_or (pe_ix (ix_tupK K) (pv 2) pe_int (fun _ _ => rfl)) (pe_one (pe_cmpR op_eq (pe_own D__law_draw (hr.mono (by decide)) (pa_cons (pv 0) (pa_cons pe_int pa_nil))) pe_int (nomark _)))))) pa_nil)))), ?_⟩
    obtain ⟨a, xs, rfl, ha, dx⟩ := hv.tupE
    have lx : xs.length = rows.length := by rw [dx.len, List.length_map]
    refine ⟨_, rfl, a, rfl, ⟨_, SqT.of ha⟩, fun D nD => ?_⟩
    obtain ⟨_, _, hpx, hcx⟩ := hh.some
    have nDp : D ≠ p := (ne_of_none hpx nD).symm
    have nDc : D ≠ c := (ne_of_none hcx nD).symm
    refine lc_itY (walk_tup (K := K) (a := a) (xs := xs)) (fun i H' => But p H H' ∧ HandAt H' p c ∧ ∃ (d : List Bool), H' D = some (.lst (d.map V.bl)) ∧ d.length = i ∧ ∀ (j : Nat) (r : Row), j < i → rows[j]? = some r → r.2.2 = true → d[j]? = some true)
      ⟨But.of (same_upd nD), hh.same (same_upd nD), [], upd_same, rfl, fun j r h => absurd h (Nat.not_lt_zero _)⟩ (fun i H' _ h => SqT.of (h.1.tups hpx _ _ ha)) (fun i x H2 H3 hi h hY => ?_) (fun H2 h => ?_)
    · obtain ⟨rfl, hx⟩ := hY
      obtain ⟨b2, h2, d, hD, ld, sure⟩ := h
      obtain ⟨_, _, hpx2, _⟩ := h2.some
      obtain ⟨dd, hdd, dr⟩ := (dx.tups (b2.tups hpx)).getV hx
      obtain ⟨r, hr', rfl⟩ := map_get hdd
      obtain ⟨t, rfl, ht⟩ := row_at dr
      refine ⟨rfl, _, rfl, t, _, _, _, rfl, rfl, SqT.of ht, atI_nat (j := 2) rfl, r.2.2, rfl, ite2 (fun e1 => ?_) (fun e1 => ?_)⟩
      · refine ⟨_, hD, sizeLt (by rw [List.length_map]; omega), fun b o nb e => ?_, h2.upd nDp.symm nDc.symm, d ++ [true], ?_, by rw [List.length_append, ld]; rfl, fun j r' hj hr2 hs => ?_⟩
        · rw [upd_ne (ne_of_none e nD)]
          exact b2 b o nb e
        · rw [upd_same, List.map_append]
          rfl
        · by_cases e : j = i
          · rw [List.getElem?_append_right (by omega), ld, e, Nat.sub_self]
            rfl
          · rw [List.getElem?_append_left (by omega)]
            exact sure j r' (by omega) hr2 hs
      · refine ⟨_, rfl, p, c, 2, rfl, h2, by decide, by decide, fun H4 v b4 h4 lo hi' => ⟨rfl, ?_⟩⟩
        have hD4 := b4 D _ nDp hD
        refine ⟨_, hD4, sizeLt (by rw [List.length_map]; omega), fun b o nb e => ?_, h4.upd nDp.symm nDc.symm, d ++ [decide (V.int v = V.int 0)], ?_, by rw [List.length_append, ld]; rfl, fun j r' hj hr2 hs => ?_⟩
        · rw [upd_ne (ne_of_none e nD)]
          exact b4 b o nb (b2 b o nb e)
        · rw [upd_same, List.map_append]
          rfl
        · by_cases e : j = i
          · rw [e, hr'] at hr2
            cases hr2
            exact absurd hs e1
          · rw [List.getElem?_append_left (by omega)]
            exact sure j r' (by omega) hr2 hs
    · obtain ⟨b2, h2, d, hD, ld, sure⟩ := h
      refine ⟨D, _, rfl, .inl ⟨SqL.of hD, fun l nl => ?_⟩⟩
      have st := same_upd (o := .tup (d.map V.bl)) nl
      refine q _ _ d (b2.trans (But.of st)) (h2.same st) (.tup upd_same (DtL.ofBls d)) ⟨by omega, fun i r hr2 hs => sure i r ?_ hr2 hs⟩
      have := (List.getElem?_eq_some_iff.mp hr2).1
      omega
def spLed : Sp := fun vs H Q _ => ∃ (vr vd : V) (N : Nat) (rows : List Row) (d : List Bool), vs = [.int N, vr, vd] ∧ Im H vr (.tuple (rows.map eRow)) ∧ Im H vd (eDoing d) ∧ (1 ≤ N ∧ N ≤ 12) ∧ rows.length ≤ 60 ∧ (∀ r ∈ rows, RowOk N r) ∧ d.length = rows.length ∧
  ∀ H' v', Same H H' → Dt (New H) H' v' (.list ((ledOf N rows d).map eSheet)) → Q v' H'
theorem sc__law_led : FnScope ["_law_offices", "_law_rows_here", "_law_doing", "_law_found", "_law_flag", "_law_row_here", "_law_now"] ["_law_offices", "_law_rows_here", "_law_doing"] (defScope st__law_led) := ⟨rfl, rfl, rfl, by decide +kernel, rfl, by decide +kernel, by decide +kernel⟩
theorem ok__law_led (T : Txt K mg) : Has P w K mg base 1 "_law_led" ["_law_offices", "_law_rows_here", "_law_doing"] spLed := by
  obtain ⟨fd, F⟩ := T.d__law_led
  refine ⟨_, fd, F.ok sc__law_led (fun vs H Q E h => ?_) (fun cdv A outer s H vs Q E hr h => ?_), T.g__law_led, F.kp, F.bindsN fun _ _ _ _ _ _ us hl => match us, hl with | [_, _, _], _ => rfl⟩
  · obtain ⟨vr, vd, N, rows, d, rfl, _⟩ := h
    rfl
  · obtain ⟨vr, vd, N, rows, d, rfl, hv, hd, ⟨hN1, hN2⟩, hlen, hok, hdl, q⟩ := h
    refine ⟨_, PSs.nox (pss_cons (ps_v (i := 3) sc__law_led.nd (pe_lst (pa_cons (pe_tupRg rfl rfl T.f_tuple (prg_1 rfl T.f_range (pv 0))) pa_nil)))
    (pss_cons (ps_for PassesOwn.never rfl (RZ.pi_zipA rfl T.f_zip (pa_cons (pv 2) (pa_cons (pv 1) pa_nil))) (pg_tupK K 2 rfl (pgs_cons (pgn (i := 4) sc__law_led.nd) (pgs_cons (pgn (i := 5) sc__law_led.nd) pgs_nil)))
      (pss_cons (ps_v (i := 6) sc__law_led.nd (pe_callTy (call_listK K) (by rfl) T.f_list (by decide +kernel) (pa_cons (pe_ix (ix_listK K) (pv 3) (pe_un un_neg pe_int) (fun _ _ => rfl)) pa_nil)))
      (C8.pss_cut (ps_if (pt_val (pv 4))
        (pss_one (ps_asg (pe_ix (ix_listK K) (pv 6) (pe_ix (ix_tupK K) (pv 5) pe_int (fun _ _ => rfl)) (fun _ _ => rfl)) (pg_sub (pv 6) (pe_ix (ix_tupK K) (pv 5) pe_int (fun _ _ => rfl)) set_list)))
        pss_nil)
      (pss_one (ps_app (pv 3) (pe_callTy (call_tupleK K) (by rfl) T.f_tuple (by decide +kernel) (pa_cons (pv 6) pa_nil)))))))
    (pss_one (ps_ret (pv 3))))), ?_⟩
    obtain ⟨ar, xs, rfl, har, dx⟩ := hv.tupE
    obtain ⟨ad, ys, rfl, had, dy⟩ := Dt.tupE (show Im H vd (.tuple (d.map PyData.bool)) from hd)
    cases dy.bls
    have lx : xs.length = rows.length := by rw [dx.len, List.length_map]
    refine ⟨_, rfl, _, rfl, ⟨by omega, by omega, by omega, by omega, by omega⟩, fun a0 n0 => ⟨(by show 1 ≤ sizeLine; decide), fun f nf => ?_⟩⟩
    have s0 := same_upd (o := .tup (rgV 0 N)) n0
    have nfH := s0.free nf
    have sf := s0.trans (same_upd (o := .lst [.ref a0]) nf)
    have e0 : rgV 0 N = (zs (sheetAt N rows d 0)).map V.int := by
      unfold rgV zs
      show _ = ((List.range N).map Int.ofNat).map V.int
      rw [List.map_map]
      have : ((N : Int) - 0).toNat = N := by omega
      rw [this]
      refine List.map_congr_left fun i _ => ?_
      show V.int (0 + (i : Nat)) = V.int i
      rw [Int.zero_add]
    have d0 : DtL (LL H f) (upd (upd H a0 (.tup (rgV 0 N))) f (.lst [.ref a0])) [.ref a0] (((List.range (0 + 1)).map (sheetAt N rows d)).map eSheet) := by
      refine .cons (cuts_mk ?_) .nil
      rw [upd_ne (fun z => by rw [← z, upd_same] at nf; cases nf), upd_same, e0]
    refine ⟨_, rfl, _, rfl, ad, ar, _, _, rfl, .inr ⟨SqT.of (sf _ _ had), SqT.of (sf _ _ har), for_it (walk_zipT (K := K) (xs := d.map V.bl) (ys := xs) (n := rows.length) (by rw [List.length_map]; omega))
      (fun i σ H' => ∃ acc y4 y5 y6, σ = [some (.int N), some (.ref ar), some (.ref ad), some (.ref f), y4, y5, y6] ∧ Same H H' ∧ H' f = some (.lst acc) ∧ DtL (LL H f) H' acc (((List.range (i + 1)).map (sheetAt N rows d)).map eSheet))
      ⟨_, none, none, none, rfl, sf, upd_same, d0⟩ (fun i σ H' _ h => ?_) (fun i x σ H1 H2 hi h hY => ?_) (fun σ H1 h => ?_)⟩⟩
    · obtain ⟨_, _, _, _, _, s1, _⟩ := h
      exact ⟨SqT.of (s1 _ _ had), SqT.of (s1 _ _ har)⟩
    · obtain ⟨acc, y4, y5, y6, rfl, s1, hf, dacc⟩ := h
      obtain ⟨t, x, y, rfl, nt, rfl, ex, ey⟩ := hY
      have s12 := same_upd (o := .tup [x, y]) nt
      obtain ⟨b, hb, rfl⟩ : ∃ b, d[i]? = some b ∧ x = .bl b := map_get ex
      obtain ⟨dd, hdd, dr⟩ := (dx.same (s1.trans s12)).getV ey
      obtain ⟨r, hr', rfl⟩ := map_get hdd
      obtain ⟨c, rfl, hc⟩ := row_at dr
      have rok := hok r (List.mem_of_getElem? hr')
      have lacc : acc.length = i + 1 := by
        have := dacc.len
        rw [List.length_map, List.length_map, List.length_range] at this
        exact this
      obtain ⟨acc0, lst, rfl⟩ : ∃ acc0 lst, acc = acc0 ++ [lst] := by
        have hne : acc ≠ [] := fun z => by rw [z] at lacc; cases lacc
        exact ⟨acc.dropLast, acc.getLast hne, (List.dropLast_concat_getLast hne).symm⟩
      have lacc0 : acc0.length = i := by
        rw [List.length_append] at lacc
        exact Nat.succ.inj lacc
      obtain ⟨el, hel, dl⟩ := (dacc.same s12).getV (i := i) (v := lst) (by rw [List.getElem?_append_right (by omega), lacc0, Nat.sub_self]; rfl)
      have eel : el = eSheet (sheetAt N rows d i) := by
        rw [List.getElem?_map, List.getElem?_map, List.getElem?_range (Nat.lt_succ_self i)] at hel
        exact (Option.some.inj hel).symm
      subst eel
      obtain ⟨e, rfl, he⟩ := cuts_at dl
      refine ⟨t, _, rfl, .inl (.inl upd_same), rfl, _, _, rfl, _, _, rfl, rfl, ?_⟩
      have hf2 := s12 _ _ hf
      refine ⟨_, rfl, _, rfl, f, _, _, _, rfl, rfl, SqL.of hf2, atI_last _ _, e, _, rfl, .inr (SqT.of he), fun l nl => ?_⟩
      have s2 := same_upd (o := .lst ((zs (sheetAt N rows d i)).map V.int)) nl
      have sl : (sheetAt N rows d i).length = N := sheetAt_len N rows d i
      obtain ⟨r1, r2, r3⟩ := rok
      have hsucc : sheetAt N rows d (i + 1) = copyTo r b (sheetAt N rows d i) := by
        rw [sheetAt_succ hr', List.getD_eq_getElem?_getD, hb]
        rfl
      generalize hsh : sheetAt N rows d i = sh at hsucc sl nl s2
      have nlf : f ≠ l := ne_of_none hf2 nl
      refine ⟨fun σ' H' => σ' = [some (.int N), some (.ref ar), some (.ref ad), some (.ref f), some (.bl b), some (.ref c), some (.ref l)] ∧ H' = upd (upd H1 t (.tup [.bl b, .ref c])) l (.lst ((zs (copyTo r b sh)).map V.int)), ?_, ?_⟩
      · refine ⟨_, rfl, b, rfl, ite2 (fun e1 => ?_) (fun e1 => ?_)⟩
        · have hc2 := s2 _ _ hc
          have g2 : sh[r.2.1]? = some (sh[r.2.1]'(by omega)) := List.getElem?_eq_getElem _
          refine ⟨_, rfl, _, rfl, c, _, _, _, rfl, rfl, SqT.of hc2, atI_nat (j := 1) rfl, l, _, _, _, rfl, rfl, SqL.of upd_same, atI_nat (zs_get g2), ?_⟩
          refine ⟨_, rfl, _, rfl, c, _, _, _, rfl, rfl, SqT.of hc2, atI_nat (j := 0) rfl, l, _, _, r.1, rfl, rfl, upd_same, ixN_nat (by rw [List.length_map, zs_len]; omega), rfl, ?_⟩
          rw [upd_upd, zs_set]
          have : copyTo r b sh = sh.set r.1 (sh[r.2.1]'(by omega)) := by
            unfold copyTo
            rw [if_pos e1, List.getD_eq_getElem?_getD, g2]
            rfl
          rw [this]
        · refine ⟨rfl, ?_⟩
          have : copyTo r b sh = sh := by
            unfold copyTo
            rw [if_neg e1]
          rw [this]
      · rintro σ' H3 ⟨rfl, rfl⟩
        have s3 := same_upd (o := .lst ((zs (copyTo r b sh)).map V.int)) nl
        refine ⟨_, rfl, .inl ⟨rfl, _, SqL.of (s3 _ _ hf2)⟩, _, rfl, l, _, rfl, .inl ⟨SqL.of upd_same, fun u nu => ?_⟩⟩
        have s4 := same_upd (o := .tup ((zs (copyTo r b sh)).map V.int)) nu
        refine ⟨f, _, _, rfl, rfl, s4 _ _ (s3 _ _ hf2), sizeLt (by omega), ?_⟩
        obtain ⟨z1, z2⟩ := app_dt (e := eSheet (copyTo r b sh)) nfH s1 hf dacc (s12.trans (s3.trans s4)) (cuts_mk upd_same)
        refine ⟨_, _, _, _, rfl, z1, upd_same, ?_⟩
        rw [List.range_succ, List.map_append, List.map_append]
        show DtL _ _ _ (_ ++ [eSheet (sheetAt N rows d (i + 1))])
        rw [hsucc]
        exact z2
    · obtain ⟨acc, y4, y5, y6, rfl, s1, hf, dacc⟩ := h
      exact ⟨_, rfl, q H1 _ s1 (.lst nfH hf (dacc.weak fun _ z => z.1))⟩
end
end K41
/-! K41W12: all doings, drawn finds, the good doings. -/
namespace K41
open PySem PySem.Spec PyProof.Rows L2
theorem cat_doing {K : PySem.W.Frag} {H : Hp} {ad t : Addr} {d : List Bool} {b : Bool} {Q : VK} (hl : d.length ≤ 60) (had : H ad = some (.tup (d.map V.bl))) (ht : H t = some (.tup [.bl b])) (k : ∀ v H', Same H H' → Im H' v (eDoing (d ++ [b])) → Q v H') :
    rCatA K (.ref ad) (.ref t) H Q := by
  refine ⟨ad, t, _, _, rfl, rfl, SqT.of had, SqT.of ht, sizeOk (by rw [List.length_map]; show d.length + 1 ≤ 1000000; omega), fun e => ?_, fun _ e => (nomatch e), fun _ _ p np => ?_⟩
  · have e0 : d = [] := List.map_eq_nil_iff.mp e
    subst e0
    exact k _ H (Same.refl H) (.tup ht (DtL.ofBls [b]))
  · refine k _ _ (same_upd np) (.tup upd_same ?_)
    have := DtL.ofBls (L := fun _ => False) (H := upd H p (.tup (d.map V.bl ++ [.bl b]))) (d ++ [b])
    rw [List.map_append] at this
    exact this
section
variable {P : Program} {w : World} {K : PySem.W.Frag} {mg : Str → Option Value} {base : Heap}
def spDoings : Sp := fun vs H Q _ => ∃ (vr : V) (rows : List Row), vs = [vr] ∧ Im H vr (.tuple (rows.map eRow)) ∧ rows.length ≤ 8 ∧ ∀ H' v', Same H H' → Dt (New H) H' v' (.list ((doingsOf rows).map eDoing)) → Q v' H'
theorem sc__law_doings : FnScope ["_law_rows_here", "_law_found", "_law_row_here", "_law_later", "_law_doing"] ["_law_rows_here"] (defScope st__law_doings) := ⟨rfl, rfl, rfl, by decide +kernel, rfl, by decide +kernel, by decide +kernel⟩
theorem ok__law_doings (T : Txt K mg) : Has P w K mg base 1 "_law_doings" ["_law_rows_here"] spDoings := by
  obtain ⟨fd, F⟩ := T.d__law_doings
  refine ⟨_, fd, F.ok sc__law_doings (fun vs H Q E h => ?_) (fun cdv A outer s H vs Q E hr h => ?_), T.g__law_doings, F.kp, F.bindsN fun _ _ _ _ _ _ us hl => match us, hl with | [_], _ => rfl⟩
  · obtain ⟨vr, rows, rfl, _⟩ := h
    rfl
  · obtain ⟨vr, rows, rfl, hv, hlen, q⟩ := h
    refine ⟨_, PSs.nox (pss_cons (ps_v (i := 1) sc__law_doings.nd (pe_lst (pa_cons (pe_tup pa_nil) pa_nil)))
    (pss_cons (ps_for PassesOwn.never rfl (pi_tupK K (pv 0)) (pgn (i := 2) sc__law_doings.nd)
      (pss_cons (ps_v (i := 3) sc__law_doings.nd (pe_lst pa_nil))
      (pss_cons (ps_for PassesOwn.never rfl (pi_listK K (pv 1)) (pgn (i := 4) sc__law_doings.nd)
        (C8.pss_cut (ps_if (pt_not (pt_val (pe_ix (ix_tupK K) (pv 2) pe_int (fun _ _ => rfl))))
          (pss_one (ps_app (pv 3) (pe_op op_catA (pv 4) (pe_tup (pa_cons pe_bl pa_nil)))))
          pss_nil)
        (pss_one (ps_app (pv 3) (pe_op op_catA (pv 4) (pe_tup (pa_cons pe_bl pa_nil)))))))
      (pss_one (ps_v (i := 1) sc__law_doings.nd (pv 3))))))
    (pss_one (ps_ret (pv 1))))), ?_⟩
    obtain ⟨ar, xs, rfl, har, dx⟩ := hv.tupE
    have lx : xs.length = rows.length := by rw [dx.len, List.length_map]
    refine ⟨Nat.zero_le _, fun a0 n0 => ⟨(by show 1 ≤ sizeLine; decide), fun f nf => ?_⟩⟩
    have s0 := same_upd (o := .tup []) n0
    have nfH := s0.free nf
    have sf := s0.trans (same_upd (o := .lst [.ref a0]) nf)
    have d0 : ImL (upd (upd H a0 (.tup [])) f (.lst [.ref a0])) [.ref a0] ((doingsOf (rows.take 0)).map eDoing) := by
      refine .cons (.tup ?_ (DtL.ofBls [])) .nil
      rw [upd_ne (fun z => by rw [← z, upd_same] at nf; cases nf), upd_same]
      rfl
    refine ⟨_, rfl, ar, rfl, ⟨_, SqT.of (sf _ _ har)⟩, for_it (walk_tup (K := K) (a := ar) (xs := xs))
      (fun i σ H' => ∃ f acc y2 y3 y4, σ = [some (.ref ar), some (.ref f), y2, y3, y4] ∧ Same H H' ∧ H f = none ∧ H' f = some (.lst acc) ∧ ImL H' acc ((doingsOf (rows.take i)).map eDoing))
      ⟨f, _, none, none, none, rfl, sf, nfH, upd_same, d0⟩ (fun i σ H' _ h => ?_) (fun i x σ H1 H2 hi h hY => ?_) (fun σ H1 h => ?_)⟩
    · obtain ⟨_, _, _, _, _, _, s1, _⟩ := h
      exact SqT.of (s1 _ _ har)
    · obtain ⟨f, acc, y2, y3, y4, rfl, s1, nf, hf, dacc⟩ := h
      obtain ⟨rfl, ex⟩ := hY
      obtain ⟨dd, hdd, dr⟩ := (dx.same s1).getV ex
      obtain ⟨r, hr', rfl⟩ := map_get hdd
      obtain ⟨c, rfl, hc⟩ := row_at dr
      have hdone : doingsOf (rows.take (i + 1)) = (doingsOf (rows.take i)).flatMap (doNext r) := by
        rw [List.take_add_one, hr']
        exact doings_snoc _ r
      have lds : (doingsOf (rows.take i)).length ≤ 256 := doings_len (by rw [List.length_take]; omega)
      have ldo : ∀ d ∈ doingsOf (rows.take i), d.length ≤ 60 := fun d hd => by
        have := (mem_doings.mp hd).1
        rw [List.length_take] at this
        omega
      generalize doingsOf (rows.take i) = ds at dacc hdone lds ldo
      have lacc : acc.length = ds.length := by rw [dacc.len, List.length_map]
      refine ⟨Nat.zero_le _, fun l nl => ?_⟩
      have nlH := s1.free nl
      have sl := same_upd (o := .lst []) nl
      have nfl : f ≠ l := ne_of_none hf nl
      refine ⟨_, rfl, f, rfl, ⟨_, SqL.of (sl _ _ hf)⟩, for_it (walk_list (K := K) (a := f) (xs := acc))
        (fun j σ H' => ∃ acc2 y4, σ = [some (.ref ar), some (.ref f), some (.ref c), some (.ref l), y4] ∧ Same H2 H' ∧ H' l = some (.lst acc2) ∧ DtL (LL H2 l) H' acc2 (((ds.take j).flatMap (doNext r)).map eDoing))
        ⟨[], y4, rfl, sl, upd_same, .nil⟩ (fun j σ H' _ h => ?_) (fun j x σ H3 H4 hj h hY => ?_) (fun σ H3 h => ?_)⟩
      · obtain ⟨_, _, _, s2, _⟩ := h
        exact SqL.of (s2 _ _ hf)
      · obtain ⟨acc2, y4, rfl, s2, hl2, dacc2⟩ := h
        obtain ⟨rfl, ex2⟩ := hY
        obtain ⟨dd2, hdd2, dr2⟩ := (dacc.same s2).getV ex2
        obtain ⟨d, hd, rfl⟩ := map_get hdd2
        obtain ⟨ad, us, rfl, had, du⟩ := Dt.tupE (show Im H4 x (.tuple (d.map PyData.bool)) from dr2)
        cases du.bls
        have ld := ldo d (List.mem_of_getElem? hd)
        have lacc2 : acc2.length ≤ 512 := by
          have h1 := dacc2.len
          rw [List.length_map] at h1
          have h2 := flat_len (doNext_len r) (ds.take j)
          rw [List.length_take] at h2
          omega
        have enext : ((ds.take (j + 1)).flatMap (doNext r)) = ((ds.take j).flatMap (doNext r) ++ (if r.2.2 = true then [] else [d ++ [false]])) ++ [d ++ [true]] := by
          rw [List.take_add_one, hd, List.flatMap_append, List.append_assoc]
          congr 1
          show doNext r d ++ [] = _
          rw [List.append_nil]
          rfl
        rw [enext]
        generalize ((ds.take j).flatMap (doNext r)) = pre at dacc2
        have hc4 := s2 _ _ hc
        -- one append
        have app : ∀ (b : Bool) (pre : List (List Bool)) (acc : List V) (H5 : Hp) (Qn : Hp → Prop), Same H4 H5 → H5 l = some (.lst acc) → DtL (LL H2 l) H5 acc (pre.map eDoing) → acc.length ≤ 600 → Same H2 H5 →
            (∀ (acc' : List V) (H6 : Hp), Same H2 H6 → H6 l = some (.lst acc') → DtL (LL H2 l) H6 acc' ((pre ++ [d ++ [b]]).map eDoing) → (acc'.length = acc.length + 1) → (∀ a xs, H5 a = some (HO.tup xs) → H6 a = some (.tup xs)) → Qn H6) →
            ∀ t, H5 t = none → rCatA K (.ref ad) (.ref t) (upd H5 t (.tup [.bl b])) fun y H6 => ∃ l' xs y', V.ref l = .ref l' ∧ [y] = [y'] ∧ H6 l' = some (.lst xs) ∧ xs.length < sizeLine ∧ Qn (upd H6 l' (.lst (xs ++ [y']))) := by
          intro b pre acc H5 Qn s45 h5 d5 l5 s5 k t nt
          have st := same_upd (o := .tup [.bl b]) nt
          refine cat_doing ld (st _ _ (s45 _ _ had)) upd_same fun v H6 s6 dv => ⟨l, acc, v, rfl, rfl, s6 _ _ (st _ _ h5), sizeLt (by omega), ?_⟩
          obtain ⟨z1, z2⟩ := app_dt (e := eDoing (d ++ [b])) nl s5 h5 d5 (st.trans s6) dv.im
          refine k _ _ z1 upd_same ?_ (by rw [List.length_append]; rfl) fun a xs e => ?_
          · rw [List.map_append]
            exact z2
          · rw [upd_ne (ne_of e h5 (by intro z; cases z))]
            exact s6 _ _ (st _ _ e)
        refine ⟨fun σ' H' => σ' = [some (.ref ar), some (.ref f), some (.ref c), some (.ref l), some (.ref ad)] ∧ ∃ acc3, Same H2 H' ∧ H' l = some (.lst acc3) ∧ DtL (LL H2 l) H' acc3 ((pre ++ (if r.2.2 = true then [] else [d ++ [false]])).map eDoing) ∧ acc3.length ≤ 600 ∧ H' ad = some (.tup (d.map V.bl)), ?_, ?_⟩
        · refine ⟨_, rfl, c, _, _, _, rfl, rfl, SqT.of hc4, atI_nat (j := 2) rfl, r.2.2, rfl, ?_⟩
          cases e1 : r.2.2 with
          | true =>
            refine iteF (A := _) ⟨rfl, acc2, s2, hl2, ?_, by omega, had⟩
            rw [if_pos rfl, List.append_nil]
            exact dacc2
          | false =>
            refine iteT (B := _) ?_
            refine ⟨_, rfl, .inl ⟨rfl, _, SqL.of hl2⟩, _, rfl, (by show 1 ≤ sizeLine; decide), fun t nt => ?_⟩
            refine app false pre acc2 H4 _ (Same.refl _) hl2 dacc2 (by omega) s2 (fun acc' H6 s6 h6 d6 l6 t6 => ⟨rfl, acc', s6, h6, ?_, by omega, t6 _ _ had⟩) t nt
            rw [if_neg (by decide)]
            exact d6
        · rintro σ' H5 ⟨rfl, acc3, s5, h5, d5, l5, had5⟩
          have st0 : ∀ t, H5 t = none → _ := fun t nt => same_upd (o := .tup [.bl true]) nt
          refine ⟨_, rfl, .inl ⟨rfl, _, SqL.of h5⟩, _, rfl, (by show 1 ≤ sizeLine; decide), fun t nt => ?_⟩
          have st := same_upd (o := .tup [.bl true]) nt
          refine cat_doing ld (st _ _ had5) upd_same fun v H6 s6 dv => ⟨l, acc3, v, rfl, rfl, s6 _ _ (st _ _ h5), sizeLt (by omega), ?_⟩
          obtain ⟨z1, z2⟩ := app_dt (e := eDoing (d ++ [true])) nl s5 h5 d5 (st.trans s6) dv.im
          refine ⟨_, _, rfl, z1, upd_same, ?_⟩
          rw [List.map_append]
          exact z2
      · obtain ⟨acc2, y4, rfl, s2, hl2, dacc2⟩ := h
        refine ⟨_, rfl, l, acc2, _, _, _, rfl, s1.trans s2, nlH, hl2, ?_⟩
        rw [hdone]
        rw [lacc, List.take_length] at dacc2
        exact dacc2.free (noLA_map noL_doing _)
    · obtain ⟨f, acc, y2, y3, y4, rfl, s1, nf, hf, dacc⟩ := h
      refine ⟨_, rfl, q H1 _ s1 (.lst nf hf ?_)⟩
      rw [lx, List.take_length] at dacc
      exact dacc.im
end
end K41
/-! K41W13: drawn finds, the good doings. -/
namespace K41
open PySem PySem.Spec PyProof.Rows L2
theorem led_get {N : Nat} {rows : List Row} {d : List Bool} {m : Nat} (h : m ≤ rows.length) : (ledOf N rows d)[m]? = some (sheetAt N rows d m) := by
  unfold ledOf
  rw [List.getElem?_map, List.getElem?_range (by omega)]
  rfl
/-- the sheet of a moment, from the list of sheets -/
theorem led_at {L : Addr → Prop} {H : Hp} {N : Nat} {rows : List Row} {d : List Bool} {xs : List V} {m : Nat} (h : DtL L H xs ((ledOf N rows d).map eSheet)) (hm : m ≤ rows.length) :
    ∃ e, xs[m]? = some (.ref e) ∧ H e = some (.tup ((zs (sheetAt N rows d m)).map V.int)) := by
  obtain ⟨v, hv, dv⟩ := h.get (i := m) (d := eSheet (sheetAt N rows d m)) (by rw [List.getElem?_map, led_get hm]; rfl)
  obtain ⟨e, rfl, he⟩ := cuts_at dv
  exact ⟨e, hv, he⟩
theorem sheet_get {N : Nat} {rows : List Row} {d : List Bool} {m o : Nat} (h : o < N) : (sheetAt N rows d m)[o]? = some ((sheetAt N rows d m).getD o 0) := by
  rw [List.getD_eq_getElem?_getD, List.getElem?_eq_getElem (by rw [sheetAt_len]; exact h)]
  rfl
/-- sheets name editions -/
theorem sheet_lt {N : Nat} {rows : List Row} {d : List Bool} (hN : 1 ≤ N) (hr : ∀ r ∈ rows, RowOk N r) : ∀ (m : Nat), ∀ v ∈ sheetAt N rows d m, v < N
  | 0, v, h => List.mem_range.mp h
  | m + 1, v, h => by
    cases e : rows[m]? with
    | none =>
      have : sheetAt N rows d (m + 1) = sheetAt N rows d m := by
        show (match rows[m]? with | some r => copyTo r (d.getD m false) (sheetAt N rows d m) | none => sheetAt N rows d m) = _
        rw [e]
      rw [this] at h
      exact sheet_lt hN hr m v h
    | some r =>
      rw [sheetAt_succ e] at h
      unfold copyTo at h
      split at h
      · rcases List.mem_or_eq_of_mem_set h with h | h
        · exact sheet_lt hN hr m v h
        · obtain ⟨r1, r2, r3⟩ := hr r (List.mem_of_getElem? e)
          rw [h]
          exact sheet_lt hN hr m _ (List.mem_of_getElem? (sheet_get (d := d) (m := m) (rows := rows) r2))
      · exact sheet_lt hN hr m v h
section
variable {P : Program} {w : World} {K : PySem.W.Frag} {mg : Str → Option Value} {base : Heap}
def spFinds : Sp := fun vs H Q _ => ∃ (p c : Addr) (vr : V) (N : Nat) (rows : List Row) (most : Nat) (odd : Int), vs = [.ref p, .int N, vr, .int most, .int odd] ∧ HandAt H p c ∧ Im H vr (.tuple (rows.map eRow)) ∧ (1 ≤ N ∧ N ≤ 12) ∧ rows.length ≤ 60 ∧ (∀ r ∈ rows, RowOk N r) ∧ most ≤ 40 ∧ (0 < odd ∧ odd < 1073741824) ∧
  ∀ H' v' (fs : List Find), But p H H' → HandAt H' p c → Dt (New H) H' v' (.list (fs.map eFind)) → fs.length ≤ most → (∀ f ∈ fs, FindOk N rows.length f) → Q v' H'
theorem sc__law_finds : FnScope ["_law_hand_here", "_law_offices", "_law_rows_here", "_law_most", "_law_odd", "_law_led_here", "_law_found", "_law_turn", "_law_moment", "_law_office", "_law_edition"] ["_law_hand_here", "_law_offices", "_law_rows_here", "_law_most", "_law_odd"] (defScope st__law_finds) := ⟨rfl, rfl, rfl, by decide +kernel, rfl, by decide +kernel, by decide +kernel⟩
theorem ok__law_finds (T : Txt K mg) (D__law_draw : Has P w K mg base 1 "_law_draw" ["_law_hand_here", "_law_many"] spDraw) (D__law_some_doing : Has P w K mg base 2 "_law_some_doing" ["_law_hand_here", "_law_rows_here"] spSomeDoing)
    (D__law_led : Has P w K mg base 1 "_law_led" ["_law_offices", "_law_rows_here", "_law_doing"] spLed) : Has P w K mg base 3 "_law_finds" ["_law_hand_here", "_law_offices", "_law_rows_here", "_law_most", "_law_odd"] spFinds := by
  obtain ⟨fd, F⟩ := T.d__law_finds
  refine ⟨_, fd, F.ok sc__law_finds (fun vs H Q E h => ?_) (fun cdv A outer s H vs Q E hr h => ?_), T.g__law_finds, F.kp, F.bindsN fun _ _ _ _ _ _ us hl => match us, hl with | [_, _, _, _, _], _ => rfl⟩
  · obtain ⟨p, c, vr, N, rows, most, odd, rfl, _⟩ := h
    rfl
  · obtain ⟨p, c, vr, N, rows, most, odd, rfl, hh, hv, ⟨hN1, hN2⟩, hlen, hok, hm, ⟨ho1, ho2⟩, q⟩ := h
    refine ⟨_, PSs.nox (pss_cons (ps_v (i := 5) sc__law_finds.nd (pe_own D__law_led (hr.mono (by decide)) (pa_cons (pv 1) (pa_cons (pv 2) (pa_cons (pe_own D__law_some_doing (hr.mono (by decide)) (pa_cons (pv 0) (pa_cons (pv 2) pa_nil))) pa_nil)))))
    (pss_cons (ps_v (i := 6) sc__law_finds.nd (pe_lst pa_nil))
    (pss_cons (ps_for PassesOwn.never rfl (pi_range1 rfl T.f_range (pa_cons (pe_own D__law_draw (hr.mono (by decide)) (pa_cons (pv 0) (pa_cons (pe_op op_add (pv 3) pe_int) pa_nil))) pa_nil)) (pgn (i := 7) sc__law_finds.nd)
      (pss_cons (ps_v (i := 8) sc__law_finds.nd (pe_own D__law_draw (hr.mono (by decide)) (pa_cons (pv 0) (pa_cons (pe_op op_add (pe_callB (call_lenK K) (by rfl) T.f_len PySem.boot_len (pa_cons (pv 2) pa_nil)) pe_int) pa_nil))))
      (pss_cons (ps_v (i := 9) sc__law_finds.nd (pe_own D__law_draw (hr.mono (by decide)) (pa_cons (pv 0) (pa_cons (pv 1) pa_nil))))
      (pss_cons (ps_v (i := 10) sc__law_finds.nd (pe_ix (ix_tupK K) (pe_ix (ix_listK K) (pv 5) (pv 8) (fun _ _ => rfl)) (pv 9) (fun _ _ => rfl)))
      (C8.pss_cut (ps_if (pt_cmpR op_eq (pe_own D__law_draw (hr.mono (by decide)) (pa_cons (pv 0) (pa_cons (pv 4) pa_nil))) pe_int (nomark _))
        (pss_one (ps_v (i := 10) sc__law_finds.nd (pe_own D__law_draw (hr.mono (by decide)) (pa_cons (pv 0) (pa_cons (pv 1) pa_nil)))))
        pss_nil)
      (pss_one (ps_app (pv 6) (pe_tup (pa_cons (pv 8) (pa_cons (pv 9) (pa_cons (pv 10) pa_nil)))))))))))
    (pss_one (ps_ret (pv 6)))))), ?_⟩
    obtain ⟨ar, xs, rfl, har, dx⟩ := id hv.tupE
    have lx : xs.length = rows.length := by rw [dx.len, List.length_map]
    obtain ⟨_, _, hpx, hcx⟩ := hh.some
    refine ⟨_, rfl, _, rfl, _, rfl, _, rfl, p, c, .ref ar, rows, rfl, hh, hv, hlen, fun H1 v1 d b1 h1 d1 isdo => ?_⟩
    refine ⟨.ref ar, v1, N, rows, d, rfl, Dt.tups (b1.tups hpx) hv, d1, ⟨hN1, hN2⟩, hlen, hok, isdo.1, fun H2 v2 s2 dl => ?_⟩
    obtain ⟨e, ls, rfl, ne1, he, dls⟩ := dl.lstE
    have dls' : ImL H2 ls ((ledOf N rows d).map eSheet) := dls.free (noLA_map noL_sheet _)
    obtain ⟨_, _, hpx1, hcx1⟩ := h1.some
    have nep : e ≠ p := (ne_of_none hpx1 ne1).symm
    refine ⟨Nat.zero_le _, fun f nf => ?_⟩
    have h2 := h1.same s2
    have hpx2 := s2 _ _ hpx1
    have hcx2 := s2 _ _ hcx1
    have nfp : f ≠ p := (ne_of_none hpx2 nf).symm
    have nfc : f ≠ c := (ne_of_none hcx2 nf).symm
    have nfe : f ≠ e := (ne_of_none he nf).symm
    have sf := same_upd (o := .lst []) nf
    have b2 : But p H H2 := b1.trans (But.of s2)
    have nfH : H f = none := by
      cases ef : H f with
      | none => rfl
      | some o => exact absurd (b2 f o nfp ef) (by rw [nf]; exact fun z => nomatch z)
    refine ⟨_, rfl, _, rfl, _, _, rfl, rfl, p, c, _, rfl, h2.same sf, by omega, by omega, fun H3 n b3 h3 lo3 hi3 => ?_⟩
    have b23 : But p H2 H3 := (But.of sf).trans b3
    have hf3 := b3 f _ nfp upd_same
    refine ⟨_, rfl, by omega, by omega, for_it (walk_range (lo := 0) (n := n.toNat))
      (fun i σ H' => ∃ acc fs y7 y8 y9 y10, σ = [some (.ref p), some (.int N), some (.ref ar), some (.int most), some (.int odd), some (.ref e), some (.ref f), y7, y8, y9, y10] ∧ But p H2 H' ∧ HandAt H' p c ∧ H' f = some (.lst acc) ∧ ImL H' acc (fs.map eFind) ∧ fs.length = i ∧ ∀ f ∈ fs, FindOk N rows.length f)
      ⟨[], [], none, none, none, none, rfl, b23, h3, hf3, .nil, rfl, fun _ h => nomatch h⟩ (fun _ _ _ _ _ => trivial) (fun i x σ H4 H5 hi h hY => ?_) (fun σ H4 h => ?_)⟩
    · obtain ⟨acc, fs, y7, y8, y9, y10, rfl, b4, h4, hf4, dacc, lfs, okf⟩ := h
      obtain ⟨rfl, rfl⟩ := hY
      have lacc : acc.length = i := by rw [dacc.len, List.length_map, lfs]
      have har2 := s2 _ _ (b1.tups hpx _ _ har)
      have har4 := b4.tups hpx2 _ _ har2
      refine ⟨_, rfl, _, rfl, ar, xs, rfl, .inr (SqT.of har4), _, _, rfl, rfl, p, c, _, rfl, h4, by omega, by omega, fun H6 m b6 h6 lo6 hi6 => ?_⟩
      obtain ⟨m, rfl⟩ : ∃ k : Nat, m = k := ⟨m.toNat, by omega⟩
      refine ⟨_, rfl, _, rfl, p, c, N, rfl, h6, by omega, by omega, fun H7 o b7 h7 lo7 hi7 => ?_⟩
      obtain ⟨o, rfl⟩ : ∃ k : Nat, o = k := ⟨o.toNat, by omega⟩
      have b27 : But p H2 H7 := (b4.trans b6).trans b7
      have he7 := b27 e _ nep he
      have hmr : m ≤ rows.length := by omega
      have hoN : o < N := by omega
      obtain ⟨t, gt, ht⟩ := led_at dls' hmr
      have ht7 := b27.tups hpx2 _ _ ht
      refine ⟨_, rfl, _, rfl, e, _, _, _, rfl, rfl, SqL.of he7, atI_nat gt, _, rfl, t, _, _, _, rfl, rfl, SqT.of ht7, atI_nat (zs_get (sheet_get hoN)), ?_⟩
      have hed := sheet_lt (d := d) hN1 hok m _ (List.mem_of_getElem? (sheet_get (d := d) (m := m) (rows := rows) hoN))
      generalize (sheetAt N rows d m).getD o 0 = ed at hed
      refine ⟨fun σ' H' => ∃ ed : Nat, σ' = [some (.ref p), some (.int N), some (.ref ar), some (.int most), some (.int odd), some (.ref e), some (.ref f), some (.int (0 + (i : Nat))), some (.int m), some (.int o), some (.int ed)] ∧ ed < N ∧ But p H7 H' ∧ HandAt H' p c, ?_, ?_⟩
      · refine ⟨_, rfl, _, rfl, p, c, odd, rfl, h7, ho1, ho2, fun H8 z b8 h8 lo8 hi8 => ?_⟩
        refine ⟨rfl, _, rfl, ite2 (fun e1 => ?_) (fun e1 => ?_)⟩
        · refine ⟨_, rfl, _, rfl, p, c, N, rfl, h8, by omega, by omega, fun H9 u b9 h9 lo9 hi9 => ?_⟩
          obtain ⟨u, rfl⟩ : ∃ k : Nat, u = k := ⟨u.toNat, by omega⟩
          exact ⟨u, rfl, by omega, b8.trans b9, h9⟩
        · exact ⟨ed, rfl, hed, b8, h8⟩
      · rintro σ' H8 ⟨ed, rfl, hed, b8, h8⟩
        have b78 := (b6.trans b7).trans b8
        have hf8 := b78 f _ nfp hf4
        obtain ⟨_, _, hpx4, _⟩ := h4.some
        refine ⟨_, rfl, .inl ⟨rfl, _, SqL.of hf8⟩, _, rfl, _, rfl, _, rfl, (by show 3 ≤ sizeLine; decide), fun t' nt => ?_⟩
        have st := same_upd (o := .tup [.int m, .int o, .int ed]) nt
        refine ⟨f, acc, _, rfl, rfl, st _ _ hf8, sizeLt (by omega), ?_⟩
        obtain ⟨z1, z2⟩ := app_dt (H0 := fun a => if a = f then none else H8 a) (f := f) (H1 := H8) (H2 := upd H8 t' (.tup [.int m, .int o, .int ed])) (y := .ref t') (e := eFind (m, o, ed)) (if_pos rfl) (fun a x e => by
          have e : (if a = f then none else H8 a) = some x := e
          by_cases ea : a = f
          · rw [if_pos ea] at e
            cases e
          · rw [if_neg ea] at e
            exact e) hf8 ((dacc.tups (b78.tups hpx4)).im) st (tri_mk upd_same)
        refine ⟨_, fs ++ [(m, o, ed)], _, _, _, _, rfl, fun b ob nb eb => ?_, ?_, upd_same, ?_, by rw [List.length_append, lfs]; rfl, fun g hg => ?_⟩
        · rw [upd_ne (ne_of_none eb nf)]
          exact st _ _ (b8 b ob nb (b27 b ob nb eb))
        · exact (h8.same st).upd nfp.symm nfc.symm
        · rw [List.map_append]
          refine DtL.free ?_ z2
          have := noLA_map noL_find (fs ++ [(m, o, ed)])
          rw [List.map_append] at this
          exact this
        · rcases List.mem_append.mp hg with hg | hg
          · exact okf g hg
          · rw [List.mem_singleton.mp hg]
            exact ⟨hmr, hoN, hed⟩
    · obtain ⟨acc, fs, y7, y8, y9, y10, rfl, b4, h4, hf4, dacc, lfs, okf⟩ := h
      exact ⟨_, rfl, q H4 _ fs (b2.trans b4) h4 (.lst nfH hf4 dacc.im) (by omega) okf⟩
def spAreTrue : Sp := fun vs H Q _ => ∃ (vl vf : V) (N : Nat) (rows : List Row) (d : List Bool) (fs : List Find) (L L' : Addr → Prop), vs = [vl, vf] ∧ Dt L H vl (.list ((ledOf N rows d).map eSheet)) ∧ Dt L' H vf (.list (fs.map eFind)) ∧ fs.length ≤ 40 ∧ (∀ f ∈ fs, FindOk N rows.length f) ∧
  ∀ H', Same H H' → Q (.bl (areTrue N rows d fs)) H'
theorem sc__law_are_true : FnScope ["_law_led_here", "_law_finds_here", "_law_moment", "_law_office", "_law_edition"] ["_law_led_here", "_law_finds_here"] (defScope st__law_are_true) := ⟨rfl, rfl, rfl, by decide +kernel, rfl, by decide +kernel, by decide +kernel⟩
theorem ok__law_are_true (T : Txt K mg) : Has P w K mg base 1 "_law_are_true" ["_law_led_here", "_law_finds_here"] spAreTrue := by
  obtain ⟨fd, F⟩ := T.d__law_are_true
  refine ⟨_, fd, F.ok sc__law_are_true (fun vs H Q E h => ?_) (fun cdv A outer s H vs Q E hr h => ?_), T.g__law_are_true, F.kp, F.bindsN fun _ _ _ _ _ _ us hl => match us, hl with | [_, _], _ => rfl⟩
  · obtain ⟨vl, vf, N, rows, d, fs, L, L', rfl, _⟩ := h
    rfl
  · obtain ⟨vl, vf, N, rows, d, fs, L, L', rfl, hl, hf, hlen, okf, q⟩ := h
    refine ⟨_, PSs.nox (pss_one (ps_ret (pe_callB (cr_allK K rfl) (by rfl) T.f_all (by decide +kernel) (pa_cons (pe_lc (own := [("_law_moment", 2), ("_law_office", 3), ("_law_edition", 4)]) rfl sc__law_are_true.nd (pi_listK K (pv 1)) (blkOk_by (by rfl)) (fun _ _ _ _ _ => (pg_tupK K 3 rfl (pgs_cons (pgn (i := 2) sc__law_are_true.nd) (pgs_cons (pgn (i := 3) sc__law_are_true.nd) (pgs_cons (pgn (i := 4) sc__law_are_true.nd) pgs_nil))))) (fun _ _ _ _ _ => pts_nil) (fun _ _ _ _ _ => (pe_cmpR op_eq (pe_ix (ix_tupK K) (pe_ix (ix_listK K) (pv 0) (pv 2) (fun _ _ => rfl)) (pv 3) (fun _ _ => rfl)) (pv 4) (nomark _)))) pa_nil)))), ?_⟩
    obtain ⟨al, ls, rfl, _, hal, dls⟩ := hl.lstE
    obtain ⟨af, gs, rfl, _, haf, dgs⟩ := hf.lstE
    refine ⟨_, rfl, af, rfl, ⟨_, SqL.of haf⟩, fun D nD => ?_⟩
    refine lc_mapL (SqL.of haf) dgs ((fs.map fun f => decide ((sheetAt N rows d f.1).getD f.2.1 0 = f.2.2)).map PyData.bool) (by simp) (by simp; omega) nD (fun i dd e x H2 Qy hd he s2 dx k => ?_) (fun H2 ys s2 e2 d2 => ?_)
    · obtain ⟨f, hf', rfl⟩ := map_get hd
      obtain ⟨b, hb, rfl⟩ := map_get he
      obtain ⟨f', hf2, rfl⟩ := map_get hb
      rw [hf'] at hf2
      cases hf2
      obtain ⟨h1, h2, h3⟩ := okf f (List.mem_of_getElem? hf')
      obtain ⟨c, rfl, hc⟩ := find_at dx
      obtain ⟨t, gt, ht⟩ := led_at (dls.same s2) h1
      refine ⟨c, _, rfl, SqT.of hc, rfl, _, _, rfl, _, _, rfl, _, _, rfl, rfl, rfl, ?_⟩
      refine ⟨_, rfl, _, rfl, al, _, _, _, rfl, rfl, SqL.of (s2 _ _ hal), atI_nat gt, _, rfl, t, _, _, _, rfl, rfl, SqT.of ht, atI_nat (zs_get (sheet_get h2)), _, rfl, rfl, ?_⟩
      have eb : decide (V.int ((sheetAt N rows d f.1).getD f.2.1 0 : Nat) = V.int f.2.2) = decide ((sheetAt N rows d f.1).getD f.2.1 0 = f.2.2) :=
        decide_eq_decide.mpr ⟨fun z => by have := V.int.inj z; omega, fun z => by rw [z]⟩
      rw [eb]
      exact k _ _ (Same.refl _) (.bl _)
    · cases d2.bls
      refine ⟨D, _, rfl, SqL.of e2, ?_⟩
      have := q H2 s2
      unfold areTrue at this
      rw [List.all_map]
      exact this
def eGood (N : Nat) (rows : List Row) (d : List Bool) : PyData := .tuple [eDoing d, .list ((ledOf N rows d).map eSheet)]
def spGood : Sp := fun vs H Q _ => ∃ (vr vf : V) (N : Nat) (rows : List Row) (fs : List Find) (L : Addr → Prop), vs = [.int N, vr, vf] ∧ Im H vr (.tuple (rows.map eRow)) ∧ Dt L H vf (.list (fs.map eFind)) ∧ (1 ≤ N ∧ N ≤ 12) ∧ rows.length ≤ 8 ∧ (∀ r ∈ rows, RowOk N r) ∧ fs.length ≤ 40 ∧ (∀ f ∈ fs, FindOk N rows.length f) ∧
  ∀ H' v', Same H H' → Dt (New H) H' v' (.list ((goodOf N rows fs).map (eGood N rows))) → Q v' H'
theorem sc__law_good : FnScope ["_law_offices", "_law_rows_here", "_law_finds_here", "_law_found", "_law_doing", "_law_led_here"] ["_law_offices", "_law_rows_here", "_law_finds_here"] (defScope st__law_good) := ⟨rfl, rfl, rfl, by decide +kernel, rfl, by decide +kernel, by decide +kernel⟩
theorem ok__law_good (T : Txt K mg) (D__law_doings : Has P w K mg base 1 "_law_doings" ["_law_rows_here"] spDoings) (D__law_led : Has P w K mg base 1 "_law_led" ["_law_offices", "_law_rows_here", "_law_doing"] spLed)
    (D__law_are_true : Has P w K mg base 1 "_law_are_true" ["_law_led_here", "_law_finds_here"] spAreTrue) : Has P w K mg base 2 "_law_good" ["_law_offices", "_law_rows_here", "_law_finds_here"] spGood := by
  obtain ⟨fd, F⟩ := T.d__law_good
  refine ⟨_, fd, F.ok sc__law_good (fun vs H Q E h => ?_) (fun cdv A outer s H vs Q E hr h => ?_), T.g__law_good, F.kp, F.bindsN fun _ _ _ _ _ _ us hl => match us, hl with | [_, _, _], _ => rfl⟩
  · obtain ⟨vr, vf, N, rows, fs, L, rfl, _⟩ := h
    rfl
  · obtain ⟨vr, vf, N, rows, fs, L, rfl, hv, hf, ⟨hN1, hN2⟩, hlen, hok, hfl, okf, q⟩ := h
    refine ⟨_, PSs.nox (pss_cons (ps_v (i := 3) sc__law_good.nd (pe_lst pa_nil))
    (pss_cons (ps_for PassesOwn.never rfl (pi_listK K (pe_own D__law_doings (hr.mono (by decide)) (pa_cons (pv 1) pa_nil))) (pgn (i := 4) sc__law_good.nd)
      (pss_cons (ps_v (i := 5) sc__law_good.nd (pe_own D__law_led (hr.mono (by decide)) (pa_cons (pv 0) (pa_cons (pv 1) (pa_cons (pv 4) pa_nil)))))
      (pss_one (ps_if (pt_val (pe_own D__law_are_true (hr.mono (by decide)) (pa_cons (pv 5) (pa_cons (pv 2) pa_nil))))
        (pss_one (ps_app (pv 3) (pe_tup (pa_cons (pv 4) (pa_cons (pv 5) pa_nil)))))
        pss_nil))))
    (pss_one (ps_ret (pv 3))))), ?_⟩
    refine ⟨Nat.zero_le _, fun f nf => ?_⟩
    have sf := same_upd (o := .lst []) nf
    refine ⟨_, rfl, vr, rows, rfl, hv.same sf, hlen, fun H2 v2 s2 d2 => ?_⟩
    obtain ⟨a, ws, rfl, na, ha, dws⟩ := d2.lstE
    have naf : a ≠ f := (ne_of_none upd_same na).symm
    have dws' : ImL H2 ws ((doingsOf rows).map eDoing) := dws.free (noLA_map noL_doing _)
    have lds := doings_len hlen
    have ldo : ∀ d ∈ doingsOf rows, d.length = rows.length := fun d hd => (mem_doings.mp hd).1
    unfold goodOf at q
    generalize doingsOf rows = ds at dws' lds ldo q
    have lws : ws.length = ds.length := by rw [dws'.len, List.length_map]
    refine ⟨a, rfl, ⟨_, SqL.of ha⟩, for_it (walk_list (K := K) (a := a) (xs := ws))
      (fun i σ H' => ∃ acc y4 y5, σ = [some (.int N), some vr, some vf, some (.ref f), y4, y5] ∧ Same H H' ∧ H' f = some (.lst acc) ∧ DtL (LL H f) H' acc (((ds.take i).filter fun d => areTrue N rows d fs).map (eGood N rows)) ∧ H' a = some (.lst ws) ∧ ImL H' ws (ds.map eDoing))
      ⟨[], none, none, rfl, sf.trans s2, s2 _ _ upd_same, .nil, ha, dws'⟩ (fun i σ H' _ h => ?_) (fun i x σ H3 H4 hi h hY => ?_) (fun σ H3 h => ?_)⟩
    · obtain ⟨_, _, _, _, _, _, _, h, _⟩ := h
      exact SqL.of h
    · obtain ⟨acc, y4, y5, rfl, s3, hf3, dacc, ha3, dws3⟩ := h
      obtain ⟨rfl, ex⟩ := hY
      obtain ⟨dd, hdd, dr⟩ := dws3.getV ex
      obtain ⟨d, hd, rfl⟩ := map_get hdd
      have lacc : acc.length ≤ 256 := by
        have h1 := dacc.len
        rw [List.length_map] at h1
        have h2 := List.length_filter_le (fun d => areTrue N rows d fs) (ds.take i)
        rw [List.length_take] at h2
        omega
      have enext : ((ds.take (i + 1)).filter fun d => areTrue N rows d fs) = ((ds.take i).filter fun d => areTrue N rows d fs) ++ (if areTrue N rows d fs = true then [d] else []) := by
        rw [List.take_add_one, hd, List.filter_append]
        congr 1
        show List.filter _ [d] = _
        rw [List.filter_cons, List.filter_nil]
      rw [enext]
      generalize ((ds.take i).filter fun d => areTrue N rows d fs) = pre at dacc
      refine ⟨_, rfl, _, rfl, _, rfl, vr, x, N, rows, d, rfl, hv.same s3, dr, ⟨hN1, hN2⟩, by omega, hok, ldo d (List.mem_of_getElem? hd), fun H5 v5 s5 d5 => ?_⟩
      refine ⟨_, rfl, _, rfl, v5, vf, N, rows, d, fs, _, _, rfl, d5, hf.same (s3.trans s5), hfl, okf, fun H6 s6 => ?_⟩
      have s46 := s5.trans s6
      cases e1 : areTrue N rows d fs with
      | true =>
        refine ⟨true, rfl, iteT (B := _) ?_⟩
        refine ⟨_, rfl, .inl ⟨rfl, _, SqL.of (s46 _ _ hf3)⟩, _, rfl, _, rfl, (by show 2 ≤ sizeLine; decide), fun t nt => ?_⟩
        have st := same_upd (o := .tup [x, v5]) nt
        have s47 := s46.trans st
        refine ⟨f, acc, _, rfl, rfl, s47 _ _ hf3, sizeLt (by omega), ?_⟩
        have d5' : Dt (LL H f) (upd H6 t (.tup [x, v5])) v5 (.list ((ledOf N rows d).map eSheet)) := ((d5.weak (fun b hb => LL.new s3 hf3 hb)).same s6).same st
        obtain ⟨z1, z2⟩ := app_dt (y := .ref t) (e := eGood N rows d) nf s3 hf3 dacc s47 (.tup upd_same (.cons (dr.im.same s47) (.cons d5' .nil)))
        refine ⟨_, _, _, rfl, z1, upd_same, ?_, ?_, ?_⟩
        · rw [if_pos rfl, List.map_append]
          exact z2
        · rw [upd_ne naf]
          exact s47 _ _ ha3
        · refine (dws3.same s47).tups fun b xs e => ?_
          rw [upd_ne (ne_of e (s47 _ _ hf3) (by intro z; cases z))]
          exact e
      | false =>
        refine ⟨false, rfl, iteF (A := _) ?_⟩
        refine ⟨acc, _, _, rfl, s3.trans s46, s46 _ _ hf3, ?_, s46 _ _ ha3, dws3.same s46⟩
        rw [if_neg (by decide), List.append_nil]
        exact dacc.same s46
    · obtain ⟨acc, y4, y5, rfl, s3, hf3, dacc, ha3, dws3⟩ := h
      rw [lws, List.take_length] at dacc
      exact ⟨_, rfl, q H3 _ s3 (.lst nf hf3 (dacc.weak fun _ z => z.1))⟩
end
end K41
/-! K41W14: data compared; cuts of sheets; turned cuts. -/
namespace K41
open PySem PySem.Spec PyProof.Rows L2
/-- data that is less than k deep -/
def OkD : Nat → PyData → Prop
  | 0, _ => False
  | _ + 1, .none => True
  | _ + 1, .bool _ => True
  | _ + 1, .int _ => True
  | _ + 1, .str _ => False
  | k + 1, .list ds => ds.length ≤ 1000000 ∧ ∀ d ∈ ds, OkD k d
  | k + 1, .tuple ds => ds.length ≤ 1000000 ∧ ∀ d ∈ ds, OkD k d
  | _ + 1, .dict _ => False
theorem layAll_of : ∀ {ds : List PyData}, (∀ d ∈ ds, d.canLay0 = true) → PyData.canLayAll0 ds = true
  | [], _ => rfl
  | d :: ds, h => by
    show (d.canLay0 && PyData.canLayAll0 ds) = true
    rw [h d List.mem_cons_self, layAll_of fun e he => h e (List.mem_cons_of_mem _ he)]
    rfl
theorem depthAll_of {k : Nat} : ∀ {ds : List PyData}, (∀ d ∈ ds, d.depth ≤ k) → PyData.depthAll ds ≤ k
  | [], _ => Nat.zero_le _
  | d :: ds, h => by
    show max d.depth (PyData.depthAll ds) ≤ k
    exact Nat.max_le.mpr ⟨h d List.mem_cons_self, depthAll_of fun e he => h e (List.mem_cons_of_mem _ he)⟩
theorem okD_lay : ∀ (k : Nat) (d : PyData), OkD k d → d.canLay0 = true ∧ d.depth ≤ k
  | k + 1, .none, _ => ⟨rfl, Nat.zero_le _⟩
  | k + 1, .bool _, _ => ⟨rfl, Nat.zero_le _⟩
  | k + 1, .int _, _ => ⟨rfl, Nat.zero_le _⟩
  | k + 1, .list ds, h => by
    have ih := fun d hd => okD_lay k d (h.2 d hd)
    have h1 : PyData.canLayAll0 ds = true := layAll_of fun d hd => (ih d hd).1
    have h2 := depthAll_of (k := k) fun d hd => (ih d hd).2
    refine ⟨h1, ?_⟩
    show PyData.depthAll ds + 1 ≤ k + 1
    omega
  | k + 1, .tuple ds, h => by
    have ih := fun d hd => okD_lay k d (h.2 d hd)
    have h1 : PyData.canLayAll0 ds = true := layAll_of fun d hd => (ih d hd).1
    have h2 := depthAll_of (k := k) fun d hd => (ih d hd).2
    refine ⟨h1, ?_⟩
    show PyData.depthAll ds + 1 ≤ k + 1
    omega
theorem okD_shaped {k : Nat} {d : PyData} (h : OkD k d) (hk : k ≤ 60) : SeqAt.shaped d = true := by
  obtain ⟨h1, h2⟩ := okD_lay k d h
  unfold SeqAt.shaped
  rw [h1, decide_eq_true (by omega)]
  rfl
/-- equal data: not unequal -/
theorem ne_same {K : PySem.W.Frag} {L L' : Addr → Prop} {H : Hp} {x y : V} {d : PyData} {k : Nat} {Q : VK} (hx : Dt L H x d) (hy : Dt L' H y d) (h : OkD k d) (hk : k ≤ 60) (q : Q (.bl false) H) : rNeD K x y H Q := by
  refine ⟨d, d, Dt.dp d x hx, Dt.dp d y hy, okD_shaped h hk, okD_shaped h hk, ?_⟩
  rw [SeqAt.eqv_refl d (okD_lay k d h).1]
  exact q
theorem okD_ints (k : Nat) {c : List Int} (h : c.length ≤ 1000000) : OkD (k + 2) (eCuts c) := ⟨by rw [List.length_map]; exact h, fun d hd => by
  obtain ⟨z, _, rfl⟩ := List.mem_map.mp hd
  exact True.intro⟩
theorem okD_tab (k : Nat) {to : Option (List (List Int))} (h : ∀ t, to = some t → t.length ≤ 1000 ∧ ∀ c ∈ t, c.length ≤ 1000) : OkD (k + 3) (eTab to) := by
  cases to with
  | none => exact True.intro
  | some t =>
    obtain ⟨h1, h2⟩ := h t rfl
    refine ⟨by rw [List.length_map]; omega, fun d hd => ?_⟩
    obtain ⟨c, hc, rfl⟩ := List.mem_map.mp hd
    exact okD_ints k (by have := h2 c hc; omega)
theorem okD_finds (k : Nat) {fs : List Find} (h : fs.length ≤ 1000) : OkD (k + 3) (.list (fs.map eFind)) := ⟨by rw [List.length_map]; omega, fun d hd => by
  obtain ⟨f, _, rfl⟩ := List.mem_map.mp hd
  exact ⟨(by show 3 ≤ 1000000; decide), fun e he => by
    rcases List.mem_cons.mp he with rfl | he
    · exact True.intro
    · rcases List.mem_cons.mp he with rfl | he
      · exact True.intro
      · rcases List.mem_cons.mp he with rfl | he
        · exact True.intro
        · cases he⟩⟩
theorem replicate_snoc (n : Nat) : (List.replicate n (V.bl true)) ++ [V.bl true] = List.replicate (n + 1) (V.bl true) := by
  rw [List.replicate_succ']
theorem replicate_map (n : Nat) : List.replicate n (V.bl true) = (List.replicate n true).map V.bl := by
  rw [List.map_replicate]
theorem replicate_all : ∀ n : Nat, (List.replicate n true).all id = true
  | 0 => rfl
  | n + 1 => by
    rw [List.replicate_succ, List.all_cons, replicate_all n]
    rfl
theorem bl_self (x : V) : V.bl (!decide (x = x)) = V.bl false := by
  rw [decide_eq_true rfl]
  rfl
section
variable {P : Program} {w : World} {K : PySem.W.Frag} {mg : Str → Option Value} {base : Heap}
def spIs (k : Nat) : Sp := fun vs H Q _ => ∃ (v1 v2 : V) (d : PyData), vs = [v1, v2] ∧ Dt AnyL H v1 d ∧ Dt AnyL H v2 d ∧ OkD k d ∧ ∀ H', Same H H' → Q (.bl true) H'
theorem sc__law_is : FnScope ["_law_got", "_law_due", "_law_one", "_law_two"] ["_law_got", "_law_due"] (defScope st__law_is) := ⟨rfl, rfl, rfl, by decide +kernel, rfl, by decide +kernel, by decide +kernel⟩
theorem ok__law_is0 (T : Txt K mg) : Has P w K mg base 1 "_law_is" ["_law_got", "_law_due"] (spIs 0) := by
  obtain ⟨fd, F⟩ := T.d__law_is
  refine ⟨_, fd, F.ok sc__law_is (fun vs H Q E h => ?_) (fun cdv A outer s H vs Q E hr h => ?_), T.g__law_is, F.kp, F.bindsN fun _ _ _ _ _ _ us hl => match us, hl with | [_, _], _ => rfl⟩
  · obtain ⟨v1, v2, d, rfl, _⟩ := h
    rfl
  · obtain ⟨v1, v2, d, rfl, _, _, h, _⟩ := h
    exact h.elim
theorem ok__law_is (T : Txt K mg) {k : Nat} (D__law_is : Has P w K mg base (k + 1) "_law_is" ["_law_got", "_law_due"] (spIs k)) : Has P w K mg base (k + 2) "_law_is" ["_law_got", "_law_due"] (spIs (k + 1)) := by
  obtain ⟨fd, F⟩ := T.d__law_is
  refine ⟨_, fd, F.ok sc__law_is (fun vs H Q E h => ?_) (fun cdv A outer s H vs Q E hr h => ?_), T.g__law_is, F.kp, F.bindsN fun _ _ _ _ _ _ us hl => match us, hl with | [_, _], _ => rfl⟩
  · obtain ⟨v1, v2, d, rfl, _⟩ := h
    rfl
  · obtain ⟨v1, v2, d, rfl, h1, h2, hk, q⟩ := h
    refine ⟨_, PSs.nox (pss_cons (ps_if (pt_val (pe_callB call_isiT (by rfl) T.f_isinstance (by decide +kernel) (pa_cons (pv 1) (pa_cons (pe_tup (pa_cons (pe_ty "tuple" T.f_tuple) (pa_cons (pe_ty "list" T.f_list) pa_nil))) pa_nil))))
      (pss_cons (ps_if (PW.pt (pw_or (pt_cmpR op_ne (pe_callB call_isi (by rfl) T.f_isinstance (by decide +kernel) (pa_cons (pv 0) (pa_cons (pe_ty "tuple" T.f_tuple) pa_nil))) (pe_callB call_isi (by rfl) T.f_isinstance (by decide +kernel) (pa_cons (pv 1) (pa_cons (pe_ty "tuple" T.f_tuple) pa_nil))) (nomark _)) (pw_or1 (pt_not (pt_val (pe_callB call_isiT (by rfl) T.f_isinstance (by decide +kernel) (pa_cons (pv 0) (pa_cons (pe_tup (pa_cons (pe_ty "tuple" T.f_tuple) (pa_cons (pe_ty "list" T.f_list) pa_nil))) pa_nil))))))))
        (pss_one (ps_ret pe_bl))
        pss_nil)
      (pss_one (ps_ret (pe_and (pe_cmpR op_eq (pe_callB (call_lenK K) (by rfl) T.f_len PySem.boot_len (pa_cons (pv 0) pa_nil)) (pe_callB (call_lenK K) (by rfl) T.f_len PySem.boot_len (pa_cons (pv 1) pa_nil)) (nomark _)) (pe_one (pe_callB (cr_allK K rfl) (by rfl) T.f_all (by decide +kernel) (pa_cons (pe_lc (own := [("_law_one", 2), ("_law_two", 3)]) rfl sc__law_is.nd (RZ.pi_zipA rfl T.f_zip (pa_cons (pv 0) (pa_cons (pv 1) pa_nil))) (blkOk_by (by rfl)) (fun _ _ _ _ _ => (pg_tupK K 2 rfl (pgs_cons (pgn (i := 2) sc__law_is.nd) (pgs_cons (pgn (i := 3) sc__law_is.nd) pgs_nil)))) (fun _ _ _ _ _ => pts_nil) (fun _ _ _ _ _ => (pe_own D__law_is (hr.mono (Nat.le_refl _)) (pa_cons (pv 2) (pa_cons (pv 3) pa_nil))))) pa_nil)))))))
      pss_nil)
    (pss_one (ps_ret (pe_and (pe_cmpR op_eq (pe_callB call_isi (by rfl) T.f_isinstance (by decide +kernel) (pa_cons (pv 0) (pa_cons (pe_ty "bool" T.f_bool) pa_nil))) (pe_callB call_isi (by rfl) T.f_isinstance (by decide +kernel) (pa_cons (pv 1) (pa_cons (pe_ty "bool" T.f_bool) pa_nil))) (nomark _)) (pe_one (pe_cmpR op_eq (pv 0) (pv 1) (nomark _))))))), ?_⟩
    cases d with
    | none =>
      cases h1.nonE
      cases h2.nonE
      refine ⟨_, rfl, (by show 2 ≤ sizeLine; decide), fun t nt => ⟨_, t, _, _, [.type "tuple", .type "list"], false, rfl, upd_same, .cons (.ty _) (.cons (.ty _) .nil), .base .non, kitAny_cons (b := false) (kit_ty (by decide +kernel)) (fun _ => kitAny_cons (b := false) (kit_ty (by decide +kernel)) (fun _ => kitAny_nil) (fun z => nomatch z)) (fun z => nomatch z), false, rfl, iteF (A := _) ?_⟩⟩
      have st := same_upd (o := .tup [V.ty "tuple", V.ty "list"]) nt
      refine ⟨_, rfl, _, _, _, _, false, rfl, .ty _, .base .non, kit_ty (by decide +kernel), _, rfl, _, _, _, _, false, rfl, .ty _, .base .non, kit_ty (by decide +kernel), rfl, true, rfl, iteT (B := _) ?_⟩
      refine ⟨_, rfl, _, rfl, rfl, ?_⟩
      have := q _ st
      rw [decide_eq_true rfl]
      exact this
    | bool x =>
      cases h1.blE
      cases h2.blE
      refine ⟨_, rfl, (by show 2 ≤ sizeLine; decide), fun t nt => ⟨_, t, _, _, [.type "tuple", .type "list"], false, rfl, upd_same, .cons (.ty _) (.cons (.ty _) .nil), .base (.bl x), kitAny_cons (b := false) (kit_ty (by decide +kernel)) (fun _ => kitAny_cons (b := false) (kit_ty (by decide +kernel)) (fun _ => kitAny_nil) (fun z => nomatch z)) (fun z => nomatch z), false, rfl, iteF (A := _) ?_⟩⟩
      have st := same_upd (o := .tup [V.ty "tuple", V.ty "list"]) nt
      refine ⟨_, rfl, _, _, _, _, true, rfl, .ty _, .base (.bl x), kit_ty (by decide +kernel), _, rfl, _, _, _, _, true, rfl, .ty _, .base (.bl x), kit_ty (by decide +kernel), rfl, true, rfl, iteT (B := _) ?_⟩
      refine ⟨_, rfl, _, rfl, rfl, ?_⟩
      have := q _ st
      rw [decide_eq_true rfl]
      exact this
    | int x =>
      cases h1.intE
      cases h2.intE
      refine ⟨_, rfl, (by show 2 ≤ sizeLine; decide), fun t nt => ⟨_, t, _, _, [.type "tuple", .type "list"], false, rfl, upd_same, .cons (.ty _) (.cons (.ty _) .nil), .base (.int x), kitAny_cons (b := false) (kit_ty (by decide +kernel)) (fun _ => kitAny_cons (b := false) (kit_ty (by decide +kernel)) (fun _ => kitAny_nil) (fun z => nomatch z)) (fun z => nomatch z), false, rfl, iteF (A := _) ?_⟩⟩
      have st := same_upd (o := .tup [V.ty "tuple", V.ty "list"]) nt
      refine ⟨_, rfl, _, _, _, _, false, rfl, .ty _, .base (.int x), kit_ty (by decide +kernel), _, rfl, _, _, _, _, false, rfl, .ty _, .base (.int x), kit_ty (by decide +kernel), rfl, true, rfl, iteT (B := _) ?_⟩
      refine ⟨_, rfl, _, rfl, rfl, ?_⟩
      have := q _ st
      rw [decide_eq_true rfl]
      exact this
    | list ds =>
      obtain ⟨a, xs, rfl, _, ha, dx⟩ := h1.lstE
      obtain ⟨b, ys, rfl, _, hb, dy⟩ := h2.lstE
      obtain ⟨hk1, hk2⟩ := (show ds.length ≤ 1000000 ∧ ∀ d ∈ ds, OkD k d from hk)
      have lx := dx.len
      have ly := dy.len
      refine ⟨_, rfl, (by show 2 ≤ sizeLine; decide), fun t nt => ?_⟩
      have st := same_upd (o := .tup [V.ty "tuple", V.ty "list"]) nt
      refine ⟨_, t, _, _, [.type "tuple", .type "list"], true, rfl, upd_same, .cons (.ty _) (.cons (.ty _) .nil), .base (.lst (st _ _ hb)), kitAny_cons (b := false) (kit_ty (by decide +kernel)) (fun _ => kitAny_cons (b := true) (kit_ty (by decide +kernel)) (fun z => nomatch z) (fun _ => rfl)) (fun z => nomatch z), true, rfl, iteT (B := _) ?_⟩
      refine ⟨_, rfl, _, _, _, _, false, rfl, .ty _, .base (.lst (st _ _ ha)), kit_ty (by decide +kernel), _, rfl, _, _, _, _, false, rfl, .ty _, .base (.lst (st _ _ hb)), kit_ty (by decide +kernel), rfl, false, rfl, iteF (A := _) ?_⟩
      refine ⟨_, rfl, (by show 2 ≤ sizeLine; decide), fun t2 nt2 => ?_⟩
      have st2 := st.trans (same_upd (o := .tup [V.ty "tuple", V.ty "list"]) nt2)
      refine ⟨_, t2, _, _, [.type "tuple", .type "list"], true, rfl, upd_same, .cons (.ty _) (.cons (.ty _) .nil), .base (.lst (st2 _ _ ha)), kitAny_cons (b := false) (kit_ty (by decide +kernel)) (fun _ => kitAny_cons (b := true) (kit_ty (by decide +kernel)) (fun z => nomatch z) (fun _ => rfl)) (fun z => nomatch z), true, rfl, iteF (A := _) ?_⟩
      refine ⟨_, rfl, a, xs, rfl, .inl (SqL.of (st2 _ _ ha)), _, rfl, b, ys, rfl, .inl (SqL.of (st2 _ _ hb)), rfl, true, bl_t (by rw [lx, ly]), iteT (B := _) ?_⟩
      refine ⟨_, rfl, _, rfl, a, b, xs, ys, rfl, .inl ⟨SqL.of (st2 _ _ ha), SqL.of (st2 _ _ hb), fun D nD => ?_⟩⟩
      refine lc_itY (walk_zip (K := K) (xs := xs) (ys := ys) (n := ds.length) (by omega)) (fun i H' => Same H H' ∧ H' D = some (.lst (List.replicate i (.bl true)))) ⟨st2.trans (same_upd nD), upd_same⟩ (fun i H' _ h => ⟨SqL.of (h.1 _ _ ha), SqL.of (h.1 _ _ hb)⟩) (fun i x H4 H5 hi h hY => ?_) (fun H4 h => ?_)
      · obtain ⟨s4, hD⟩ := h
        obtain ⟨u, x, y, rfl, nu, rfl, ex, ey⟩ := hY
        have s5 := s4.trans (same_upd (o := .tup [x, y]) nu)
        have s45 := same_upd (o := .tup [x, y]) nu
        obtain ⟨d, hd, ddx⟩ := (dx.same s5).getV ex
        obtain ⟨d', hd', ddy⟩ := (dy.same s5).getV ey
        rw [hd] at hd'
        cases hd'
        refine ⟨u, _, rfl, .inl (.inl upd_same), rfl, _, _, rfl, _, _, rfl, rfl, rfl, ?_⟩
        refine ⟨_, rfl, _, rfl, x, y, d, rfl, ddx, ddy, hk2 d (List.mem_of_getElem? hd), fun H6 s6 => ⟨_, s6 _ _ (s45 _ _ hD), sizeLt (by rw [List.length_replicate]; omega), ?_, ?_⟩⟩
        · exact same_set (s5.trans s6) (st2.free nD)
        · rw [upd_same, replicate_snoc]
      · obtain ⟨s4, hD⟩ := h
        rw [replicate_map] at hD
        refine ⟨D, _, rfl, SqL.of hD, ?_⟩
        rw [replicate_all]
        exact q _ s4
    | tuple ds =>
      obtain ⟨a, xs, rfl, ha, dx⟩ := h1.tupE
      obtain ⟨b, ys, rfl, hb, dy⟩ := h2.tupE
      obtain ⟨hk1, hk2⟩ := (show ds.length ≤ 1000000 ∧ ∀ d ∈ ds, OkD k d from hk)
      have lx := dx.len
      have ly := dy.len
      refine ⟨_, rfl, (by show 2 ≤ sizeLine; decide), fun t nt => ?_⟩
      have st := same_upd (o := .tup [V.ty "tuple", V.ty "list"]) nt
      refine ⟨_, t, _, _, [.type "tuple", .type "list"], true, rfl, upd_same, .cons (.ty _) (.cons (.ty _) .nil), .base (.tup (st _ _ hb)), kitAny_cons (b := true) (kit_ty (by decide +kernel)) (fun z => nomatch z) (fun _ => rfl), true, rfl, iteT (B := _) ?_⟩
      refine ⟨_, rfl, _, _, _, _, true, rfl, .ty _, .base (.tup (st _ _ ha)), kit_ty (by decide +kernel), _, rfl, _, _, _, _, true, rfl, .ty _, .base (.tup (st _ _ hb)), kit_ty (by decide +kernel), rfl, false, rfl, iteF (A := _) ?_⟩
      refine ⟨_, rfl, (by show 2 ≤ sizeLine; decide), fun t2 nt2 => ?_⟩
      have st2 := st.trans (same_upd (o := .tup [V.ty "tuple", V.ty "list"]) nt2)
      refine ⟨_, t2, _, _, [.type "tuple", .type "list"], true, rfl, upd_same, .cons (.ty _) (.cons (.ty _) .nil), .base (.tup (st2 _ _ ha)), kitAny_cons (b := true) (kit_ty (by decide +kernel)) (fun z => nomatch z) (fun _ => rfl), true, rfl, iteF (A := _) ?_⟩
      refine ⟨_, rfl, a, xs, rfl, .inr (SqT.of (st2 _ _ ha)), _, rfl, b, ys, rfl, .inr (SqT.of (st2 _ _ hb)), rfl, true, bl_t (by rw [lx, ly]), iteT (B := _) ?_⟩
      refine ⟨_, rfl, _, rfl, a, b, xs, ys, rfl, .inr ⟨SqT.of (st2 _ _ ha), SqT.of (st2 _ _ hb), fun D nD => ?_⟩⟩
      refine lc_itY (walk_zipT (K := K) (xs := xs) (ys := ys) (n := ds.length) (by omega)) (fun i H' => Same H H' ∧ H' D = some (.lst (List.replicate i (.bl true)))) ⟨st2.trans (same_upd nD), upd_same⟩ (fun i H' _ h => ⟨SqT.of (h.1 _ _ ha), SqT.of (h.1 _ _ hb)⟩) (fun i x H4 H5 hi h hY => ?_) (fun H4 h => ?_)
      · obtain ⟨s4, hD⟩ := h
        obtain ⟨u, x, y, rfl, nu, rfl, ex, ey⟩ := hY
        have s5 := s4.trans (same_upd (o := .tup [x, y]) nu)
        have s45 := same_upd (o := .tup [x, y]) nu
        obtain ⟨d, hd, ddx⟩ := (dx.same s5).getV ex
        obtain ⟨d', hd', ddy⟩ := (dy.same s5).getV ey
        rw [hd] at hd'
        cases hd'
        refine ⟨u, _, rfl, .inl (.inl upd_same), rfl, _, _, rfl, _, _, rfl, rfl, rfl, ?_⟩
        refine ⟨_, rfl, _, rfl, x, y, d, rfl, ddx, ddy, hk2 d (List.mem_of_getElem? hd), fun H6 s6 => ⟨_, s6 _ _ (s45 _ _ hD), sizeLt (by rw [List.length_replicate]; omega), ?_, ?_⟩⟩
        · exact same_set (s5.trans s6) (st2.free nD)
        · rw [upd_same, replicate_snoc]
      · obtain ⟨s4, hD⟩ := h
        rw [replicate_map] at hD
        refine ⟨D, _, rfl, SqL.of hD, ?_⟩
        rw [replicate_all]
        exact q _ s4
    | str x => exact hk.elim
    | dict ds => exact hk.elim
def spCuts : Sp := fun vs H Q _ => ∃ (v : V) (sh : List Nat), vs = [v] ∧ Im H v (eSheet sh) ∧ sh.length ≤ 60 ∧ ∀ H' v', Same H H' → Im H' v' (eCuts (cutsOf sh)) → Q v' H'
theorem sc__law_cuts : FnScope ["_law_row_here", "_law_border", "_law_own"] ["_law_row_here"] (defScope st__law_cuts) := ⟨rfl, rfl, rfl, by decide +kernel, rfl, by decide +kernel, by decide +kernel⟩
theorem ok__law_cuts (T : Txt K mg) : Has P w K mg base 1 "_law_cuts" ["_law_row_here"] spCuts := by
  obtain ⟨fd, F⟩ := T.d__law_cuts
  refine ⟨_, fd, F.ok sc__law_cuts (fun vs H Q E h => ?_) (fun cdv A outer s H vs Q E hr h => ?_), T.g__law_cuts, F.kp, F.bindsN fun _ _ _ _ _ _ us hl => match us, hl with | [_], _ => rfl⟩
  · obtain ⟨v, sh, rfl, _⟩ := h
    rfl
  · obtain ⟨v, sh, rfl, hv, hlen, q⟩ := h
    obtain ⟨a, rfl, ha⟩ := cuts_at hv
    refine ⟨_, PSs.nox (pss_one (ps_ret (pe_callTy (call_tupleK K) (by rfl) T.f_tuple (by decide +kernel) (pa_cons (pe_lc (own := [("_law_border", 1)]) rfl sc__law_cuts.nd (pi_range1 rfl T.f_range (pa_cons (pe_op op_add (pe_callB (call_lenK K) (by rfl) T.f_len PySem.boot_len (pa_cons (pv 0) pa_nil)) pe_int) pa_nil)) (blkOk_by (by rfl)) (fun _ _ _ _ _ => (pgn (i := 1) sc__law_cuts.nd)) (fun _ _ _ _ _ => pts_nil) (fun _ _ _ _ _ => (pe_callB (call_lenK K) (by rfl) T.f_len PySem.boot_len (pa_cons (pe_lc (own := [("_law_own", 2)]) rfl sc__law_cuts.nd (pi_tupK K (pv 0)) (blkOk_by (by rfl)) (fun _ _ _ _ _ => (pgn (i := 2) sc__law_cuts.nd)) (fun _ _ _ _ _ => (pts_one (pt_cmpR op_lt (pv 2) (pv 1) (nomark _)))) (fun _ _ _ _ _ => (pv 2))) pa_nil)))) pa_nil)))), ?_⟩
    have lz : ((zs sh).map V.int).length = sh.length := by rw [List.length_map, zs_len]
    refine ⟨_, rfl, a, _, rfl, .inr (SqT.of ha), _, _, rfl, rfl, _, rfl, by omega, by omega, fun D nD => ?_⟩
    have en : (((((zs sh).map V.int).length : Nat) : Int) + 1).toNat = sh.length + 1 := by omega
    rw [en]
    refine lc_mapR (lo := 0) ((cutsOf sh).map PyData.int) (by unfold cutsOf; simp) (by omega) nD (fun i e H2 Qy hi he s2 k => ?_) (fun H2 ys s2 e2 d2 => ?_)
    · obtain ⟨z, hz, rfl⟩ := map_get he
      unfold cutsOf at hz
      obtain ⟨b, hb, rfl⟩ := map_get hz
      have eb : i = b := by
        rw [List.getElem?_range hi] at hb
        exact Option.some.inj hb
      subst eb
      have ha2 := s2 _ _ ha
      refine ⟨rfl, _, rfl, a, rfl, ⟨_, SqT.of ha2⟩, fun D2 nD2 => ?_⟩
      refine lc_it (walk_tup (K := K) (a := a) (xs := (zs sh).map V.int)) (fun j H' => Same H2 H' ∧ H' D2 = some (.lst ((zs ((sh.take j).filter fun v => decide (v < i))).map V.int))) ⟨same_upd nD2, upd_same⟩ (fun j H' _ h => SqT.of (h.1 _ _ ha2)) (fun j x H3 H4 hj h hY => ?_) (fun H3 h => ?_)
      · obtain ⟨s3, hD2⟩ := h
        obtain ⟨rfl, ex⟩ := hY
        have hj' : j < sh.length := by omega
        have gj : sh[j]? = some sh[j] := List.getElem?_eq_getElem hj'
        have : x = .int (sh[j] : Nat) := by
          rw [zs_get gj] at ex
          exact (Option.some.inj ex).symm
        subst this
        have enext : ((sh.take (j + 1)).filter fun v => decide (v < i)) = ((sh.take j).filter fun v => decide (v < i)) ++ (if sh[j] < i then [sh[j]] else []) := by
          rw [List.take_add_one, gj, List.filter_append]
          congr 1
          show List.filter _ [sh[j]] = _
          by_cases h : sh[j] < i
          · rw [if_pos h, List.filter_cons_of_pos (p := fun v => decide (v < i)) (decide_eq_true h)]
            rfl
          · rw [if_neg h, List.filter_cons_of_neg (p := fun v => decide (v < i)) (by rw [decide_eq_false h]; decide)]
            rfl
        have lp : ((sh.take j).filter fun v => decide (v < i)).length ≤ 60 := by
          have := List.length_filter_le (fun v => decide (v < i)) (sh.take j)
          rw [List.length_take] at this
          omega
        rw [enext]
        generalize ((sh.take j).filter fun v => decide (v < i)) = pre at hD2 lp
        generalize sh[j] = v
        refine ⟨rfl, _, rfl, _, rfl, _, _, rfl, rfl, _, rfl, ite2 (fun e1 => ?_) (fun e1 => ?_)⟩
        · have e1' : v < i := by
            have := of_decide_eq_true e1
            omega
          refine ⟨_, rfl, _, hD2, sizeLt (by rw [List.length_map, zs_len]; omega), same_set s3 nD2, ?_⟩
          rw [upd_same, if_pos e1']
          unfold zs
          rw [List.map_append, List.map_append]
          rfl
        · have e1' : ¬ v < i := fun z => e1 (decide_eq_true (by omega))
          rw [if_neg e1', List.append_nil]
          exact ⟨s3, hD2⟩
      · obtain ⟨s3, hD2⟩ := h
        rw [lz, List.take_length] at hD2
        refine ⟨D2, _, rfl, .inl (SqL.of hD2), ?_⟩
        rw [List.length_map, zs_len]
        exact k _ _ s3 (.int _)
    · refine ⟨D, ys, rfl, .inl ⟨SqL.of e2, fun l nl => ?_⟩⟩
      exact q _ _ (s2.trans (same_upd nl)) (.tup upd_same ((d2.free (noL_ints _)).same (same_upd nl)))
def spTurnedCuts : Sp := fun vs H Q _ => ∃ (v : V) (N : Nat) (to : Option (List (List Int))), vs = [.int N, v] ∧ Im H v (eTab to) ∧ (∀ t, to = some t → t.length ≤ 1000 ∧ ∀ c ∈ t, c.length ≤ 1000) ∧ ∀ H' v', Same H H' → Im H' v' (eTab (to.map (turnTab N))) → Q v' H'
theorem sc__law_turned_cuts : FnScope ["_law_offices", "_law_some", "_law_cuts_here", "_law_cut"] ["_law_offices", "_law_some"] (defScope st__law_turned_cuts) := ⟨rfl, rfl, rfl, by decide +kernel, rfl, by decide +kernel, by decide +kernel⟩
theorem ok__law_turned_cuts (T : Txt K mg) : Has P w K mg base 1 "_law_turned_cuts" ["_law_offices", "_law_some"] spTurnedCuts := by
  obtain ⟨fd, F⟩ := T.d__law_turned_cuts
  refine ⟨_, fd, F.ok sc__law_turned_cuts (fun vs H Q E h => ?_) (fun cdv A outer s H vs Q E hr h => ?_), T.g__law_turned_cuts, F.kp, F.bindsN fun _ _ _ _ _ _ us hl => match us, hl with | [_, _], _ => rfl⟩
  · obtain ⟨v, N, to, rfl, _⟩ := h
    rfl
  · obtain ⟨v, N, to, rfl, hv, hto, q⟩ := h
    refine ⟨_, PSs.nox (pss_cons (ps_if (pt_cmp (pc_isN (pv 1)) rfl)
      (pss_one (ps_ret pe_non))
      pss_nil)
    (pss_one (ps_ret (pe_callTy (call_tupleK K) (by rfl) T.f_tuple (by decide +kernel) (pa_cons (pe_lc (own := [("_law_cuts_here", 2)]) rfl sc__law_turned_cuts.nd (pi_tupK K (pv 1)) (blkOk_by (by rfl)) (fun _ _ _ _ _ => (pgn (i := 2) sc__law_turned_cuts.nd)) (fun _ _ _ _ _ => pts_nil) (fun _ _ _ _ _ => (pe_callTy (call_tupleK K) (by rfl) T.f_tuple (by decide +kernel) (pa_cons (pe_lc (own := [("_law_cut", 3)]) rfl sc__law_turned_cuts.nd (pi_tupK K (pe_revTK K (pv 2))) (blkOk_by (by rfl)) (fun _ _ _ _ _ => (pgn (i := 3) sc__law_turned_cuts.nd)) (fun _ _ _ _ _ => pts_nil) (fun _ _ _ _ _ => (pe_op op_sub (pv 0) (pv 3)))) pa_nil)))) pa_nil))))), ?_⟩
    cases to with
    | none =>
      cases hv.nonE
      exact ⟨_, rfl, true, rfl, iteT (A := _) (q H _ (Same.refl H) .non)⟩
    | some tb =>
      obtain ⟨tl1, tl2⟩ := hto tb rfl
      obtain ⟨c, ys, rfl, hc, dy⟩ := Dt.tupE (show Im H v (.tuple (tb.map eCuts)) from hv)
      refine ⟨_, rfl, false, rfl, iteF (B := _) ?_⟩
      refine ⟨_, rfl, c, rfl, ⟨_, SqT.of hc⟩, fun D nD => ?_⟩
      refine lc_mapT (SqT.of hc) dy ((turnTab N tb).map eCuts) (by unfold turnTab; simp) (by rw [List.length_map]; omega) nD (fun i d e' x H4 Qy hd he s4 dx4 k => ?_) (fun H4 zs s4 e4 d4 => ?_)
      · obtain ⟨cs, hcs, rfl⟩ := map_get hd
        obtain ⟨cs2, hcs2, rfl⟩ := map_get he
        unfold turnTab at hcs2
        obtain ⟨cs3, hcs3, rfl⟩ := map_get hcs2
        rw [hcs] at hcs3
        cases hcs3
        have lcs := tl2 cs (List.mem_of_getElem? hcs)
        obtain ⟨a5, us, rfl, ha5, du⟩ := Dt.tupE (show Im H4 x (.tuple (cs.map .int)) from dx4)
        refine ⟨rfl, _, rfl, a5, us, rfl, SqT.of ha5, fun r nr => ?_⟩
        have s5 := same_upd (o := .tup us.reverse) nr
        refine ⟨r, rfl, ⟨_, SqT.of upd_same⟩, fun D5 nD5 => ?_⟩
        have dur : ImL (upd H4 r (.tup us.reverse)) us.reverse (cs.reverse.map PyData.int) := by
          rw [List.map_reverse]
          exact (du.reverse).same s5
        refine lc_mapT (SqT.of upd_same) dur ((cs.reverse.map fun z => (N : Int) - z).map PyData.int) (by simp) (by simp; omega) nD5 (fun j d6 e6 y H6 Qz hd6 he6 s6 dx6 k6 => ?_) (fun H6 zs6 s6 e6 d6 => ?_)
        · obtain ⟨z, hz, rfl⟩ := map_get hd6
          obtain ⟨z2, hz2, rfl⟩ := map_get he6
          obtain ⟨z3, hz3, rfl⟩ := map_get hz2
          rw [hz] at hz3
          cases hz3
          cases dx6.intE
          exact ⟨rfl, _, rfl, _, rfl, _, _, rfl, rfl, k6 _ _ (Same.refl _) (.int _)⟩
        · refine ⟨D5, zs6, rfl, .inl ⟨SqL.of e6, fun l nl => ?_⟩⟩
          exact k _ _ ((s5.trans s6).trans (same_upd nl)) (.tup upd_same ((d6.free (noL_ints _)).same (same_upd nl)))
      · refine ⟨D, zs, rfl, .inl ⟨SqL.of e4, fun l nl => ?_⟩⟩
        exact q _ _ (s4.trans (same_upd nl)) (.tup upd_same ((d4.free (noLA_map noL_cuts _)).same (same_upd nl)))
end
end K41
/-! K41W15: the law. -/
namespace K41
open PySem PySem.Spec PyProof.Rows L2
def eAll (N : Nat) (rows : List Row) (d : List Bool) : PyData := .list ((ledOf N rows d).map fun sh => eCuts (cutsOf sh))
theorem low_len {N : Nat} {rows : List Row} {fs : List Find} (I : InpOk N rows fs) : ∀ t, lowTab N rows fs = some t → t.length ≤ 1000 ∧ ∀ c ∈ t, c.length ≤ 1000 := fun t h => by
  obtain ⟨h1, h2⟩ := tab_len h
  have := I.len
  have := I.n2
  refine ⟨by omega, fun c hc => ?_⟩
  have := h2 c hc
  omega
theorem turn_len {N : Nat} {to : Option (List (List Int))} (h : ∀ t, to = some t → t.length ≤ 1000 ∧ ∀ c ∈ t, c.length ≤ 1000) : ∀ t, to.map (turnTab N) = some t → t.length ≤ 1000 ∧ ∀ c ∈ t, c.length ≤ 1000 := fun t e => by
  cases to with
  | none => cases e
  | some u =>
    cases Option.some.inj e
    obtain ⟨h1, h2⟩ := h u rfl
    unfold turnTab
    refine ⟨by rw [List.length_map]; exact h1, fun c hc => ?_⟩
    obtain ⟨b, hb, rfl⟩ := List.mem_map.mp hc
    rw [List.length_map, List.length_reverse]
    exact h2 b hb
theorem high_len {N : Nat} {rows : List Row} {fs : List Find} (I : InpOk N rows fs) : ∀ t, highTab N rows fs = some t → t.length ≤ 1000 ∧ ∀ c ∈ t, c.length ≤ 1000 := turn_len (low_len I.turn)
theorem good_len {N : Nat} {rows : List Row} (fs : List Find) (h : rows.length ≤ 8) : (goodOf N rows fs).length ≤ 256 := Nat.le_trans (List.length_filter_le _ _) (doings_len h)
theorem led_mem {N : Nat} {rows : List Row} {d : List Bool} {sh : List Nat} (h : sh ∈ ledOf N rows d) : sh.length = N := by
  unfold ledOf at h
  obtain ⟨m, _, rfl⟩ := List.mem_map.mp h
  exact sheetAt_len _ _ _ _
section
variable {P : Program} {w : World} {K : PySem.W.Frag} {mg : Str → Option Value} {base : Heap}
def spLaw (K : PySem.W.Frag) : Sp := fun vs H Q _ => ∃ (a : Addr) (ns : List Int), vs = [.ref a] ∧ SqL K H a (ns.map V.int) ∧ ns.length ≤ 63 ∧ ∀ H', Q (.bl true) H'
theorem sc_law : FnScope ["_law_script", "_law_hand_here", "_law_turn", "_law_offices", "_law_rows_here", "_law_finds_here", "_law_log", "_law_good_here", "_law_due", "_law_other", "_law_got", "_law_moment", "_law_doing", "_law_led_here", "_law_row_here", "_law_border", "_law_cuts_here", "_law_office", "_law_edition"] ["_law_script"] (defScope st_law) := ⟨rfl, rfl, rfl, by decide +kernel, rfl, by decide +kernel, by decide +kernel⟩
theorem ok_law (T : Txt K mg) (D__law_hand : Has P w K mg base 1 "_law_hand" ["_law_script"] (spHand K)) (D__law_draw : Has P w K mg base 1 "_law_draw" ["_law_hand_here", "_law_many"] spDraw) (D__law_rows : Has P w K mg base 3 "_law_rows" ["_law_hand_here", "_law_offices", "_law_most", "_law_share"] spRows)
    (D__law_finds : Has P w K mg base 3 "_law_finds" ["_law_hand_here", "_law_offices", "_law_rows_here", "_law_most", "_law_odd"] spFinds) (D_Log : HasI P w K mg base 5 "Log" (He.ga K "Log") ["self", "offices", "rows"] (spLogInit K))
    (D__law_good : Has P w K mg base 2 "_law_good" ["_law_offices", "_law_rows_here", "_law_finds_here"] spGood) (D__law_cuts : Has P w K mg base 1 "_law_cuts" ["_law_row_here"] spCuts) (D__law_is : Has P w K mg base 5 "_law_is" ["_law_got", "_law_due"] (spIs 4))
    (D_greatest_cuts : Has P w K mg base 10 "greatest_cuts" ["log", "finds"] (spHighCuts K)) (D_mirrored_finds : Has P w K mg base 5 "mirrored_finds" ["log", "finds"] (spTurnedFinds K)) (D_mirrored : Has P w K mg base 8 "mirrored" ["log"] (spMirrored K))
    (D_fit : Has P w K mg base 8 "fit" ["log", "finds"] (spFits K)) (D_least_cuts : Has P w K mg base 8 "least_cuts" ["log", "finds"] (spLowCuts K)) (D__law_turned_cuts : Has P w K mg base 1 "_law_turned_cuts" ["_law_offices", "_law_some"] spTurnedCuts) :
    ∀ fd : FuncData, FnP K "law" "law" st_law (He.fAd K dd_law.at_) fd → FnOk P w K mg base CX0 11 (He.ga K "law") fd ["_law_script"] (spLaw K) := by
  intro fd F
  refine F.ok sc_law (fun vs H Q E h => ?_) (fun cdv A outer s H vs Q E hr h => ?_)
  · obtain ⟨a, ns, rfl, _⟩ := h
    rfl
  · obtain ⟨a, ns, rfl, hS, hn, q⟩ := h
    refine ⟨_, PSs.nox ((pss_cons (ps_v (i := 1) sc_law.nd (pe_own D__law_hand (hr.mono (by decide)) (pa_cons (pv 0) pa_nil)))
    (pss_cons (ps_for PassesOwn.never rfl (pi_range1 rfl T.f_range (pa_cons pe_int pa_nil)) (pgn (i := 2) sc_law.nd)
      (pss_cons (ps_v (i := 3) sc_law.nd (pe_ix (ix_listK K) (pe_lst (pa_cons (pe_op op_add pe_int (pe_own D__law_draw (hr.mono (by decide)) (pa_cons (pv 1) (pa_cons pe_int pa_nil)))) (pa_cons pe_int (pa_cons pe_int (pa_cons pe_int pa_nil))))) (pv 2) (fun _ _ => rfl)))
      (pss_cons (ps_v (i := 4) sc_law.nd (pe_own D__law_rows (hr.mono (by decide)) (pa_cons (pv 1) (pa_cons (pv 3) (pa_cons pe_int (pa_cons pe_int pa_nil))))))
      (pss_cons (ps_v (i := 5) sc_law.nd (pe_own D__law_finds (hr.mono (by decide)) (pa_cons (pv 1) (pa_cons (pv 3) (pa_cons (pv 4) (pa_cons pe_int (pa_cons pe_int pa_nil)))))))
      (pss_cons (ps_v (i := 6) sc_law.nd (pe_ownI D_Log (hr.mono (by decide)) (pa_cons (pv 3) (pa_cons (pv 4) pa_nil))))
      (pss_cons (ps_v (i := 7) sc_law.nd (pe_lc (own := [("_law_doing", 12), ("_law_led_here", 13)]) rfl sc_law.nd (pi_listK K (pe_own D__law_good (hr.mono (by decide)) (pa_cons (pv 3) (pa_cons (pv 4) (pa_cons (pv 5) pa_nil))))) (blkOk_by (by rfl)) (fun _ _ _ _ _ => (pg_tupK K 2 rfl (pgs_cons (pgn (i := 12) sc_law.nd) (pgs_cons (pgn (i := 13) sc_law.nd) pgs_nil)))) (fun _ _ _ _ _ => pts_nil) (fun _ _ _ _ _ => (pe_lc (own := [("_law_row_here", 14)]) rfl sc_law.nd (pi_listK K (pv 13)) (blkOk_by (by rfl)) (fun _ _ _ _ _ => (pgn (i := 14) sc_law.nd)) (fun _ _ _ _ _ => pts_nil) (fun _ _ _ _ _ => (pe_own D__law_cuts (hr.mono (by decide)) (pa_cons (pv 14) pa_nil)))))))
      (pss_cons (ps_v (i := 8) sc_law.nd pe_non)
      (C8.pss_cut (ps_if (pt_cmpR op_gt (pe_callB (call_lenK K) (by rfl) T.f_len PySem.boot_len (pa_cons (pv 7) pa_nil)) pe_int (nomark _))
        (pss_cons (ps_v (i := 8) sc_law.nd (pe_lst pa_nil))
        (pss_cons (ps_for PassesOwn.never rfl (pi_range1 rfl T.f_range (pa_cons (pe_op op_add (pe_callB (call_lenK K) (by rfl) T.f_len PySem.boot_len (pa_cons (pv 4) pa_nil)) pe_int) pa_nil)) (pgn (i := 11) sc_law.nd)
          (pss_one (ps_app (pv 8) (pe_callTy (call_tupleK K) (by rfl) T.f_tuple (by decide +kernel) (pa_cons (pe_lc (own := [("_law_border", 15)]) rfl sc_law.nd (pi_range1 rfl T.f_range (pa_cons (pe_op op_add (pv 3) pe_int) pa_nil)) (blkOk_by (by rfl)) (fun _ _ _ _ _ => (pgn (i := 15) sc_law.nd)) (fun _ _ _ _ _ => pts_nil) (fun _ _ _ _ _ => (pe_callB (cr_maxK K rfl) (by rfl) T.f_max (by decide +kernel) (pa_cons (pe_lc (own := [("_law_cuts_here", 16)]) rfl sc_law.nd (pi_listK K (pv 7)) (blkOk_by (by rfl)) (fun _ _ _ _ _ => (pgn (i := 16) sc_law.nd)) (fun _ _ _ _ _ => pts_nil) (fun _ _ _ _ _ => (pe_ix (ix_tupK K) (pe_ix (ix_listK K) (pv 16) (pv 11) (fun _ _ => rfl)) (pv 15) (fun _ _ => rfl)))) pa_nil)))) pa_nil)))))
        (pss_one (ps_v (i := 8) sc_law.nd (pe_callTy (call_tupleK K) (by rfl) T.f_tuple (by decide +kernel) (pa_cons (pv 8) pa_nil))))))
        pss_nil)
      (pss_cons (ps_if (pt_not (pt_val (pe_own D__law_is (hr.mono (by decide)) (pa_cons (pe_lst (pa_cons (pe_own D_greatest_cuts (hr.mono (by decide)) (pa_cons (pv 6) (pa_cons (pv 5) pa_nil))) pa_nil)) (pa_cons (pe_lst (pa_cons (pv 8) pa_nil)) pa_nil)))))
        (pss_one (ps_ret pe_bl))
        pss_nil)
      (pss_cons (ps_setLc (i := 9) rfl sc_law.nd rfl rfl (sw_true rfl rfl rfl (by decide +kernel)) (own := [("_law_moment", 11), ("_law_office", 17), ("_law_edition", 18)]) (pi_listK K (pv 5)) (blkOk_by (by rfl)) (fun _ _ _ _ _ => (pg_tupK K 3 rfl (pgs_cons (pgn (i := 11) sc_law.nd) (pgs_cons (pgn (i := 17) sc_law.nd) (pgs_cons (pgn (i := 18) sc_law.nd) pgs_nil))))) (fun _ _ _ _ _ => pts_nil) (fun _ _ _ _ _ => (pe_tup (pa_cons (pv 11) (pa_cons (pe_op op_sub (pe_op op_sub (pv 3) pe_int) (pv 17)) (pa_cons (pe_op op_sub (pe_op op_sub (pv 3) pe_int) (pv 18)) pa_nil))))))
      (pss_cons (ps_v (i := 10) sc_law.nd (pe_own D_mirrored_finds (hr.mono (by decide)) (pa_cons (pv 6) (pa_cons (pe_callTy (call_tupleK K) (by rfl) T.f_tuple (by decide +kernel) (pa_cons (pv 5) pa_nil)) pa_nil))))
      (pss_cons (ps_if (PW.pt (pw_or (pt_not (pt_val (pe_callB call_isi (by rfl) T.f_isinstance (by decide +kernel) (pa_cons (pv 10) (pa_cons (pe_ty "list" T.f_list) pa_nil))))) (pw_or (pt_not (pt_val (pe_own D__law_is (hr.mono (by decide)) (pa_cons (pv 10) (pa_cons (pv 9) pa_nil))))) (pw_or1 (pt_cmpR (op_neD hr.units) (pe_own D_mirrored_finds (hr.mono (by decide)) (pa_cons (pe_own D_mirrored (hr.mono (by decide)) (pa_cons (pv 6) pa_nil)) (pa_cons (pv 10) pa_nil))) (pv 5) (nomark _))))))
        (pss_one (ps_ret pe_bl))
        pss_nil)
      (pss_cons (ps_if (pt_cmpR op_ne (pe_own D_fit (hr.mono (by decide)) (pa_cons (pe_own D_mirrored (hr.mono (by decide)) (pa_cons (pv 6) pa_nil)) (pa_cons (pv 10) pa_nil))) (pe_own D_fit (hr.mono (by decide)) (pa_cons (pv 6) (pa_cons (pv 5) pa_nil))) (nomark _))
        (pss_one (ps_ret pe_bl))
        pss_nil)
      (pss_cons (ps_if (pt_cmpR (op_neD hr.units) (pe_own D_least_cuts (hr.mono (by decide)) (pa_cons (pe_own D_mirrored (hr.mono (by decide)) (pa_cons (pv 6) pa_nil)) (pa_cons (pv 10) pa_nil))) (pe_own D__law_turned_cuts (hr.mono (by decide)) (pa_cons (pv 3) (pa_cons (pv 8) pa_nil))) (nomark _))
        (pss_one (ps_ret pe_bl))
        pss_nil)
      (pss_cons (ps_if (pt_cmpR (op_neD hr.units) (pe_own D_greatest_cuts (hr.mono (by decide)) (pa_cons (pe_own D_mirrored (hr.mono (by decide)) (pa_cons (pv 6) pa_nil)) (pa_cons (pv 10) pa_nil))) (pe_own D__law_turned_cuts (hr.mono (by decide)) (pa_cons (pv 3) (pa_cons (pe_own D_least_cuts (hr.mono (by decide)) (pa_cons (pv 6) (pa_cons (pv 5) pa_nil))) pa_nil))) (nomark _))
        (pss_one (ps_ret pe_bl))
        pss_nil)
      (pss_cons (ps_app (pv 10) pe_non)
      (pss_one (ps_if (pt_not (pt_val (pe_own D__law_is (hr.mono (by decide)) (pa_cons (pe_own D_mirrored_finds (hr.mono (by decide)) (pa_cons (pv 6) (pa_cons (pv 5) pa_nil))) (pa_cons (pv 9) pa_nil)))))
        (pss_one (ps_ret pe_bl))
        pss_nil))))))))))))))))))
    (pss_one (ps_ret pe_bl))))), ?_⟩
    refine ⟨_, rfl, a, ns, rfl, hS, hn, fun H0 p c s0 np hh0 => ?_⟩
    refine ⟨_, rfl, by decide, by decide, for_it (walk_range (lo := 0) (n := (4 : Int).toNat))
      (fun i σ H' => ∃ y2 y3 y4 y5 y6 y7 y8 y9 y10 y11 y12 y13 y14 y15 y16 y17 y18, σ = [some (.ref a), some (.ref p), y2, y3, y4, y5, y6, y7, y8, y9, y10, y11, y12, y13, y14, y15, y16, y17, y18] ∧ HandAt H' p c)
      ⟨none, none, none, none, none, none, none, none, none, none, none, none, none, none, none, none, none, rfl, hh0⟩ (fun _ _ _ _ _ => trivial) (fun i x σ Ha Hb hi h hY => ?_) (fun σ H1 h => ?_)⟩
    · obtain ⟨y2, y3, y4, y5, y6, y7, y8, y9, y10, y11, y12, y13, y14, y15, y16, y17, y18, rfl, hh⟩ := h
      obtain ⟨rfl, rfl⟩ := hY
      have hi : i < 4 := hi
      refine ⟨_, rfl, p, c, 6, rfl, hh, by decide, by decide, fun H1 z b1 h1 lo1 hi1 => ?_⟩
      obtain ⟨N, hN1, hN6, hget⟩ : ∃ N : Nat, 1 ≤ N ∧ N ≤ 6 ∧ ([V.int (1 + z), .int 3, .int 4, .int 5] : List V)[i]? = some (.int N) := by
        have : i = 0 ∨ i = 1 ∨ i = 2 ∨ i = 3 := by omega
        rcases this with rfl | rfl | rfl | rfl
        · refine ⟨(1 + z).toNat, by omega, by omega, ?_⟩
          have e : (((1 + z).toNat : Nat) : Int) = 1 + z := by omega
          rw [e]
          rfl
        · exact ⟨3, by decide, by decide, rfl⟩
        · exact ⟨4, by decide, by decide, rfl⟩
        · exact ⟨5, by decide, by decide, rfl⟩
      refine ⟨_, _, rfl, rfl, (by show 4 ≤ sizeLine; decide), fun l nl => ?_⟩
      refine ⟨_, rfl, l, _, _, _, rfl, rfl, SqL.of upd_same, at_of (by omega) hget, ?_⟩
      have h2 := h1.same (same_upd (o := .lst [V.int (1 + z), .int 3, .int 4, .int 5]) nl)
      refine ⟨_, rfl, _, rfl, p, c, N, 8, 2, rfl, h2, hN1, by omega, by decide, fun H3 vr rows b3 h3 dr lr okr => ?_⟩
      obtain ⟨ar, xr, rfl, har, dxr⟩ := id dr.tupE
      refine ⟨_, rfl, _, rfl, _, rfl, p, c, .ref ar, N, rows, 6, 9, rfl, h3, dr, ⟨hN1, by omega⟩, by omega, okr, by decide, ⟨by decide, by decide⟩, fun H4 vf fs b4 h4 df lf okf => ?_⟩
      obtain ⟨_, _, hpx3, _⟩ := h3.some
      have dr4 : Im H4 (.ref ar) (.tuple (rows.map eRow)) := Dt.tups (b4.tups hpx3) dr
      have I : InpOk N rows fs := ⟨hN1, by omega, by omega, okr, by omega, okf⟩
      obtain ⟨af, xf, rfl, naf, haf, dxf⟩ := id df.lstE
      have lxf : xf.length = fs.length := by rw [dxf.len, List.length_map]
      refine ⟨_, rfl, _, rfl, ?_⟩
      intro x dx nx ndx nex
      have sx : Same H4 (upd (upd H4 dx (.own x)) x (.ins (He.ga K "Log") dx [])) := fun b o e => by
        rw [upd_ne (ne_of_none e nx), upd_ne (ne_of_none e ndx)]
        exact e
      refine ⟨x, dx, N, ar, rows, rfl, upd_same, dr4.same sx, ⟨hN1, by omega⟩, by omega, okr, fun H5 b5 e5 => ⟨rfl, ?_⟩⟩
      have s5 : Same H4 H5 := b5.same sx nx
      have h5 := h4.same s5
      have dr5 := dr4.same s5
      have hL5 : LogAt K H5 (.ref x) N rows := ⟨x, dx, ar, rfl, e5, dr5⟩
      have df5 : Dt AnyL H5 (.ref af) (.list (fs.map eFind)) := (df.any).same s5
      have haf5 := s5 _ _ haf
      have har5 : H5 ar = some (.tup xr) := s5 _ _ (b4.tups hpx3 _ _ har)
      have dxf5 : ImL H5 xf (fs.map eFind) := (dxf.free (noLA_map noL_find _)).same s5
      have lxr : xr.length = rows.length := by rw [dxr.len, List.length_map]
      clear hget
      refine ⟨_, rfl, _, rfl, _, rfl, .ref ar, .ref af, N, rows, fs, _, rfl, dr5, df5, ⟨hN1, by omega⟩, lr, okr, by omega, okf, fun H6 vg s6 dg => ?_⟩
      obtain ⟨ag, xg, rfl, nag, hag, dxg⟩ := dg.lstE
      have lgo := good_len (N := N) fs lr
      refine ⟨ag, rfl, ⟨_, SqL.of hag⟩, fun D nD => ?_⟩
      refine lc_mapL (SqL.of hag) dxg ((goodOf N rows fs).map (eAll N rows)) (by simp) (by rw [List.length_map]; omega) nD (fun j d e y H8 Qy hd he s8 dy k => ?_) (fun H7 xs7 s7 e7 d7 => ?_)
      · obtain ⟨d, hd', rfl⟩ := map_get hd
        obtain ⟨d', hd2, rfl⟩ := map_get he
        rw [hd'] at hd2
        cases hd2
        obtain ⟨t, us, rfl, ht, dus⟩ := Dt.tupE (show Dt _ H8 y (.tuple [eDoing d, .list ((ledOf N rows d).map eSheet)]) from dy)
        cases dus with
        | cons q1 q2 =>
          cases q2 with
          | cons q2 q3 =>
            cases q3
            obtain ⟨al, xl, rfl, _, hal, dxl⟩ := q2.lstE
            refine ⟨t, _, rfl, SqT.of ht, rfl, _, _, rfl, _, _, rfl, rfl, rfl, ?_⟩
            refine ⟨_, rfl, al, rfl, ⟨_, SqL.of hal⟩, fun D2 nD2 => ?_⟩
            refine lc_mapL (SqL.of hal) dxl ((ledOf N rows d).map fun sh => eCuts (cutsOf sh)) (by simp) (by rw [List.length_map]; unfold ledOf; rw [List.length_map, List.length_range]; omega) nD2 (fun j2 dd ee y2 H9 Qz hdd hee s9 dy2 k9 => ?_) (fun H9 ys9 s9 e9 d9 => k _ _ s9 (Dt.made nD2 e9 d9))
            obtain ⟨sh, hsh, rfl⟩ := map_get hdd
            obtain ⟨sh', hsh', rfl⟩ := map_get hee
            rw [hsh] at hsh'
            cases hsh'
            have lsh := led_mem (List.mem_of_getElem? hsh)
            exact ⟨rfl, _, rfl, y2, sh, rfl, dy2.free (noL_sheet sh), by omega, fun H10 v10 s10 d10 => k9 _ _ s10 d10.im⟩
      · have s57 : Same H5 H7 := s6.trans s7
        have lxs7 : xs7.length = (goodOf N rows fs).length := by rw [d7.len, List.length_map]
        refine ⟨fun σ' H' => ∃ v8 y11', σ' = [some (.ref a), some (.ref p), some (.int (0 + (i : Nat))), some (.int N), some (.ref ar), some (.ref af), some (.ref x), some (.ref D), some v8, y9, y10, y11', y12, y13, y14, y15, y16, y17, y18] ∧ Same H7 H' ∧ Im H' v8 (eTab (highTab N rows fs)), ?_, ?_⟩
        · refine ⟨_, rfl, D, _, rfl, .inl (SqL.of e7), _, _, rfl, rfl, _, rfl, ?_⟩
          rcases high_spec I with ⟨g0, hn0⟩ | ⟨g0, E, hE, spec⟩
          · rw [hn0]
            refine ite2 (fun e1 => ?_) (fun e1 => ?_)
            · exfalso
              have := of_decide_eq_true e1
              rw [lxs7, g0] at this
              exact absurd this (by decide)
            · exact ⟨.non, y11, rfl, Same.refl H7, .non⟩
          · refine ite2 (fun e1 => ?_) (fun e1 => ?_)
            · rw [hE]
              refine ⟨Nat.zero_le _, fun f nf => ?_⟩
              have sf := same_upd (o := .lst []) nf
              have har7 : H7 ar = some (.tup xr) := s57 _ _ har5
              have en : (((xr.length : Nat) : Int) + 1).toNat = rows.length + 1 := by omega
              refine ⟨_, rfl, ar, xr, rfl, .inr (SqT.of (sf _ _ har7)), _, _, rfl, rfl, _, rfl, by omega, by omega, ?_⟩
              rw [en]
              refine for_it (walk_range (lo := 0) (n := rows.length + 1))
                (fun m σ H' => ∃ acc y11', σ = [some (.ref a), some (.ref p), some (.int (0 + (i : Nat))), some (.int N), some (.ref ar), some (.ref af), some (.ref x), some (.ref D), some (.ref f), y9, y10, y11', y12, y13, y14, y15, y16, y17, y18] ∧ Same H7 H' ∧ H' f = some (.lst acc) ∧ DtL (LL H7 f) H' acc (((List.range m).map fun m => (List.range (N + 1)).map fun b => E m b).map eCuts))
                ⟨[], y11, rfl, sf, upd_same, .nil⟩ (fun _ _ _ _ _ => trivial) (fun m xm σ H8 H9 hm h hY => ?_) (fun σ H8 h => ?_)
              · obtain ⟨acc, y11', rfl, s8, hf8, dacc⟩ := h
                obtain ⟨rfl, rfl⟩ := hY
                have lacc : acc.length = m := by rw [dacc.len, List.length_map, List.length_map, List.length_range]
                refine ⟨_, rfl, .inl ⟨rfl, _, SqL.of hf8⟩, ?_⟩
                have en2 : ((N : Int) + 1).toNat = N + 1 := by omega
                refine ⟨_, rfl, _, _, rfl, rfl, _, rfl, by omega, by omega, fun D3 nD3 => ?_⟩
                rw [en2]
                refine lc_mapR (lo := 0) (((List.range (N + 1)).map fun b => E m b).map PyData.int) (by simp) (by omega) nD3 (fun b e H10 Qy hb he s10 k => ?_) (fun H10 ys10 s10 e10 d10 => ?_)
                · obtain ⟨ev, hev, rfl⟩ := map_get he
                  obtain ⟨b', hb', rfl⟩ := map_get hev
                  have eb : b = b' := by
                    rw [List.getElem?_range hb] at hb'
                    exact Option.some.inj hb'
                  subst eb
                  have e7' := s10 _ _ (s8 _ _ e7)
                  have d7' := (d7.same s8).same s10
                  refine ⟨rfl, _, rfl, D, rfl, ⟨_, SqL.of e7'⟩, fun D4 nD4 => ?_⟩
                  refine lc_mapL (SqL.of e7') d7' (((goodOf N rows fs).map fun d => pth (stepsOf rows) d b m).map PyData.int) (by simp) (by rw [List.length_map]; omega) nD4 (fun j dd ee y H11 Qz hdd hee s11 dy k4 => ?_) (fun H11 ys11 s11 e11 d11 => ?_)
                  · obtain ⟨d, hd, rfl⟩ := map_get hdd
                    obtain ⟨pv', hpv, rfl⟩ := map_get hee
                    obtain ⟨d', hd2, rfl⟩ := map_get hpv
                    rw [hd] at hd2
                    cases hd2
                    obtain ⟨al, xl, rfl, _, hal, dxl⟩ := Dt.lstE (show Dt _ H11 y (.list ((ledOf N rows d).map fun sh => eCuts (cutsOf sh))) from dy)
                    obtain ⟨v1, hv1, dv1⟩ := dxl.get (i := m) (d := eCuts (cutsOf (sheetAt N rows d m))) (by rw [List.getElem?_map, led_get (by omega)]; rfl)
                    obtain ⟨t, rfl, ht⟩ := cuts_at dv1
                    have hgb : ((cutsOf (sheetAt N rows d m)).map V.int)[b]? = some (.int (pth (stepsOf rows) d b m)) := by
                      rw [cutsOf_at okr (by omega), List.getElem?_map, List.getElem?_map, List.getElem?_range hb]
                      rfl
                    refine ⟨rfl, _, rfl, _, rfl, al, _, _, _, rfl, rfl, SqL.of hal, at_of (by omega) hv1, _, rfl, t, _, _, _, rfl, rfl, SqT.of ht, at_of (by omega) hgb, ?_⟩
                    exact k4 _ _ (Same.refl _) (.int _)
                  · cases d11.ints
                    obtain ⟨sp1, d0, hd0, sp2⟩ := spec m b (by omega) (by omega)
                    refine ⟨D4, _, rfl, SqL.of e11, by rw [List.length_map]; exact Nat.pos_of_ne_zero fun z => g0 (List.length_eq_zero_iff.mp z), fun mx hmx hle => ?_⟩
                    obtain ⟨d1, hd1, rfl⟩ := List.mem_map.mp hmx
                    have l1 := sp1 d1 hd1
                    have l2 := hle _ (List.mem_map.mpr ⟨d0, hd0, rfl⟩)
                    have em : pth (stepsOf rows) d1 b m = E m b := by omega
                    rw [em]
                    exact k _ _ s11 (.int _)
                · refine ⟨D3, ys10, rfl, .inl ⟨SqL.of e10, fun t nt => ?_⟩⟩
                  have st := same_upd (o := .tup ys10) nt
                  have s810 := s10.trans st
                  refine ⟨f, acc, _, rfl, rfl, s810 _ _ hf8, sizeLt (by omega), ?_⟩
                  cases d10.ints
                  obtain ⟨z1, z2⟩ := app_dt (e := eCuts ((List.range (N + 1)).map fun b => E m b)) nf s8 hf8 dacc s810 (cuts_mk upd_same)
                  refine ⟨_, _, rfl, z1, upd_same, ?_⟩
                  have er : (((List.range (m + 1)).map fun m => (List.range (N + 1)).map fun b => E m b).map eCuts) = (((List.range m).map fun m => (List.range (N + 1)).map fun b => E m b).map eCuts) ++ [eCuts ((List.range (N + 1)).map fun b => E m b)] := by
                    rw [List.range_succ (n := m), List.map_append, List.map_append]
                    rfl
                  rw [er]
                  exact z2
              · obtain ⟨acc, y11', rfl, s8, hf8, dacc⟩ := h
                refine ⟨_, rfl, f, acc, rfl, .inl ⟨SqL.of hf8, fun t nt => ?_⟩⟩
                have st := same_upd (o := .tup acc) nt
                refine ⟨_, _, rfl, s8.trans st, .tup upd_same ?_⟩
                exact (dacc.free (noLA_map noL_cuts _)).same st
            · exfalso
              refine e1 (decide_eq_true ?_)
              rw [lxs7]
              have : 0 < (goodOf N rows fs).length := Nat.pos_of_ne_zero fun z => g0 (List.length_eq_zero_iff.mp z)
              omega
        · rintro σ' H8 ⟨v8, y11', rfl, s8, d8⟩
          have s58 := s57.trans s8
          -- the greatest cuts
          refine ⟨_, rfl, _, rfl, .ref x, .ref af, N, rows, fs, rfl, hL5.same s58, FindsAt.ofL (df5.same s58), I, fun H9 v9 s9 d9 => ⟨(by show 1 ≤ sizeLine; decide), fun l1 n1 => ⟨_, rfl, (by show 1 ≤ sizeLine; decide), fun l2 n2 => ?_⟩⟩⟩
          have sl1 := same_upd (o := .lst [v9]) n1
          have sl2 := same_upd (o := .lst [v8]) n2
          have nl12 : l1 ≠ l2 := fun z => by rw [← z, upd_same] at n2; cases n2
          refine ⟨.ref l1, .ref l2, .list [eTab (highTab N rows fs)], rfl, .lst trivial ((upd_ne nl12).trans upd_same) (.cons ((d9.im.same sl1).same sl2) .nil), .lst trivial upd_same (.cons (((d8.im.same s9).same sl1).same sl2) .nil), ⟨(by show 1 ≤ 1000000; decide), fun d hd => by rw [List.mem_singleton.mp hd]; exact okD_tab 0 (high_len I)⟩, fun H10 s10 => ⟨true, rfl, iteF (A := _) ?_⟩⟩
          have s5_10 := s58.trans (s9.trans (sl1.trans (sl2.trans s10)))
          have d8_10 : Im H10 v8 (eTab (highTab N rows fs)) := d8.same (s9.trans (sl1.trans (sl2.trans s10)))
          have haf10 := s5_10 _ _ haf5
          have dxf10 : ImL H10 xf (fs.map eFind) := dxf5.same s5_10
          clear d8 d9 d7
          -- the other finds
          refine ⟨_, rfl, af, rfl, ⟨_, SqL.of haf10⟩, fun O nO => ?_⟩
          refine lc_mapL (SqL.of haf10) dxf10 ((fs.map (turnFind N)).map eFind) (by simp) (by rw [List.length_map]; omega) nO (fun j d e y H11 Qy hd he s11 dy k => ?_) (fun H11 zs11 s11 e11 d11 => ?_)
          · obtain ⟨f, hf', rfl⟩ := map_get hd
            obtain ⟨g, hg, rfl⟩ := map_get he
            obtain ⟨f', hf2, rfl⟩ := map_get hg
            rw [hf'] at hf2
            cases hf2
            obtain ⟨o1, o2, o3⟩ := okf f (List.mem_of_getElem? hf')
            obtain ⟨c', rfl, hc'⟩ := find_at dy
            refine ⟨c', _, rfl, SqT.of hc', rfl, _, _, rfl, _, _, rfl, _, _, rfl, rfl, rfl, ?_⟩
            refine ⟨_, rfl, _, rfl, _, _, rfl, rfl, _, rfl, _, _, rfl, rfl, _, rfl, _, _, rfl, rfl, _, rfl, _, _, rfl, rfl, (by show 3 ≤ sizeLine; decide), fun t' nt => k _ _ (same_upd nt) (tri_mk ?_)⟩
            rw [upd_same]
            show some (HO.tup [V.int f.1, V.int ((N : Int) - 1 - f.2.1), V.int ((N : Int) - 1 - f.2.2)]) = some (HO.tup [V.int f.1, V.int ((N - 1 - f.2.1 : Nat) : Int), V.int ((N - 1 - f.2.2 : Nat) : Int)])
            have q1 : (N : Int) - 1 - f.2.1 = ((N - 1 - f.2.1 : Nat) : Int) := by omega
            have q2 : (N : Int) - 1 - f.2.2 = ((N - 1 - f.2.2 : Nat) : Int) := by omega
            rw [q1, q2]
          · have dO : Dt AnyL H11 (.ref O) (.list ((fs.map (turnFind N)).map eFind)) := (Dt.made nO e11 d11).any
            have s5_11 := s5_10.trans s11
            have L11 := hL5.same s5_11
            have df11 := df5.same s5_11
            have haf11 := s5_11 _ _ haf5
            have d8_11 := d8_10.same s11
            have h11 := h5.same s5_11
            have dxf11 : ImL H11 xf (fs.map eFind) := dxf5.same s5_11
            have lT : (fs.map (turnFind N)).length ≤ 1000 := by rw [List.length_map]; omega
            clear d11 d8_10 dxf10
            -- the finds from the other end
            refine ⟨_, rfl, _, rfl, af, _, rfl, .inl ⟨SqL.of haf11, fun t nt => ?_⟩⟩
            have st := same_upd (o := .tup xf) nt
            refine ⟨.ref x, .ref t, N, rows, fs, rfl, L11.same st, ⟨t, xf, rfl, .inr upd_same, dxf11.same st⟩, I, fun H12 v12 s12 d12 => ?_⟩
            obtain ⟨g, xg2, rfl, ng, hg, dg2⟩ := id d12.lstE
            have ng11 : H11 g = none := st.free ng
            have s11_12 := st.trans s12
            have dG : Dt AnyL H12 (.ref g) (.list ((fs.map (turnFind N)).map eFind)) := d12.any
            have lxg2 : xg2.length = fs.length := by rw [dg2.len, List.length_map, List.length_map]
            have IT := I.turn
            refine ⟨_, rfl, _, _, _, _, true, rfl, .ty _, .base (.lst hg), kit_ty (by decide +kernel), true, rfl, iteF (A := _) ?_⟩
            refine ⟨_, rfl, _, rfl, .ref g, .ref O, _, rfl, dG, dO.same s11_12, okD_finds 1 lT, fun H13 s13 => ⟨true, rfl, iteF (A := _) ?_⟩⟩
            have s11_13 := s11_12.trans s13
            refine ⟨_, rfl, .ref x, N, rows, rfl, L11.same s11_13, ⟨hN1, by omega⟩, I.len, okr, fun H14 vm s14 lm => ?_⟩
            refine ⟨_, rfl, vm, .ref g, N, rows.map (turnRow N), fs.map (turnFind N), rfl, lm, FindsAt.ofL (dG.same (s13.trans s14)), IT, fun H15 v15 s15 d15 => ?_⟩
            rw [turnFinds2 okf] at d15
            refine ⟨_, rfl, ne_same (k := 3) d15 (df11.same (s11_13.trans (s14.trans s15))) (okD_finds 0 (by omega)) (by decide) ⟨false, rfl, iteF (A := _) ?_⟩⟩
            have s11_15 := s11_13.trans (s14.trans s15)
            have s12_15 := s13.trans (s14.trans s15)
            clear d15 lm
            -- fit
            refine ⟨_, rfl, .ref x, N, rows, rfl, L11.same s11_15, ⟨hN1, by omega⟩, I.len, okr, fun H16 vm s16 lm => ?_⟩
            refine ⟨_, rfl, vm, .ref g, N, rows.map (turnRow N), fs.map (turnFind N), rfl, lm, FindsAt.ofL (dG.same (s12_15.trans s16)), IT, fun H17 s17 => ?_⟩
            have s11_17 := s11_15.trans (s16.trans s17)
            refine ⟨_, rfl, _, rfl, .ref x, .ref af, N, rows, fs, rfl, L11.same s11_17, FindsAt.ofL (df11.same s11_17), I, fun H18 s18 => ⟨rfl, false, (by rw [fit_turn I]; exact bl_self _), iteF (A := _) ?_⟩⟩
            have s11_18 := s11_17.trans s18
            have s12_18 := s12_15.trans (s16.trans (s17.trans s18))
            clear lm
            -- the least cuts seen from the other end
            refine ⟨_, rfl, .ref x, N, rows, rfl, L11.same s11_18, ⟨hN1, by omega⟩, I.len, okr, fun H19 vm s19 lm => ?_⟩
            refine ⟨_, rfl, vm, .ref g, N, rows.map (turnRow N), fs.map (turnFind N), rfl, lm, FindsAt.ofL (dG.same (s12_18.trans s19)), IT, fun H20 v20 s20 d20 => ?_⟩
            have s11_20 := s11_18.trans (s19.trans s20)
            refine ⟨_, rfl, _, rfl, v8, N, highTab N rows fs, rfl, d8_11.same s11_20, high_len I, fun H21 v21 s21 d21 => ?_⟩
            rw [high_turned] at d21
            refine ne_same (k := 3) (d20.same s21) d21 (okD_tab 0 (low_len IT)) (by decide) ⟨false, rfl, iteF (A := _) ?_⟩
            have s11_21 := s11_20.trans s21
            have s12_21 := s12_18.trans (s19.trans (s20.trans s21))
            clear lm d20 d21
            -- the greatest cuts seen from the other end
            refine ⟨_, rfl, .ref x, N, rows, rfl, L11.same s11_21, ⟨hN1, by omega⟩, I.len, okr, fun H22 vm s22 lm => ?_⟩
            refine ⟨_, rfl, vm, .ref g, N, rows.map (turnRow N), fs.map (turnFind N), rfl, lm, FindsAt.ofL (dG.same (s12_21.trans s22)), IT, fun H23 v23 s23 d23 => ?_⟩
            rw [high_of_turned I] at d23
            have s11_23 := s11_21.trans (s22.trans s23)
            refine ⟨_, rfl, _, rfl, _, rfl, .ref x, .ref af, N, rows, fs, rfl, L11.same s11_23, FindsAt.ofL (df11.same s11_23), I, fun H24 v24 s24 d24 => ?_⟩
            refine ⟨v24, N, lowTab N rows fs, rfl, d24, low_len I, fun H25 v25 s25 d25 => ?_⟩
            refine ne_same (k := 3) (d23.same (s24.trans s25)) d25 (okD_tab 0 (turn_len (low_len I))) (by decide) ⟨false, rfl, iteF (A := _) ?_⟩
            have s11_25 := s11_23.trans (s24.trans s25)
            have s12_25 := s12_21.trans (s22.trans (s23.trans (s24.trans s25)))
            -- what was got is changed
            have hg25 := s12_25 _ _ hg
            refine ⟨_, rfl, .inl ⟨rfl, _, SqL.of hg25⟩, g, _, _, rfl, rfl, hg25, sizeLt (by omega), ?_⟩
            have s11_26 : Same H11 (upd H25 g (.lst (xg2 ++ [.non]))) := same_set s11_25 ng11
            refine ⟨_, rfl, _, rfl, .ref x, .ref af, N, rows, fs, rfl, L11.same s11_26, FindsAt.ofL (df11.same s11_26), I, fun H27 v27 s27 d27 => ?_⟩
            refine ⟨_, rfl, v27, .ref O, _, rfl, d27.any, dO.same (s11_26.trans s27), okD_finds 1 lT, fun H28 s28 => ⟨true, rfl, iteF (A := _) ?_⟩⟩
            exact ⟨_, _, _, _, _, _, _, _, _, _, _, _, _, _, _, _, _, rfl, h11.same (s11_26.trans (s27.trans s28))⟩
    · exact q H1
end
end K41
/-! K41End: all defs together; the law's statement. -/
namespace K41
open PySem PySem.Spec PyProof.Rows L2
section
variable {P : Program} {w : World} {K : PySem.W.Frag} {mg : Str → Option Value} {base : Heap}
theorem law_ok (T : Txt K mg) : ∀ fd : FuncData, FnP K "law" "law" st_law (He.fAd K dd_law.at_) fd → FnOk P w K mg base CX0 11 (He.ga K "law") fd ["_law_script"] (spLaw K) := by
  have h_is_integer : Has P w K mg base 1 "is_integer" ["thing"] spIsInteger := ok_is_integer T
  have h_is_within := ok_is_within T h_is_integer
  have h_is_listed := ok_is_listed (P := P) (w := w) (base := base) T
  have h_is_triple := ok_is_triple (P := P) (w := w) (base := base) T
  have h_is_flag := ok_is_flag (P := P) (w := w) (base := base) T
  have h_is_row := ok_is_row T h_is_triple h_is_within h_is_flag
  have h_first_bad := ok_first_bad T h_is_row
  have h_Log := ok_Log_init T h_is_within h_first_bad
  have h_raw_log := ok_raw_log T h_Log
  have h_is_left := ok_is_left (P := P) (w := w) (base := base) T
  have h_cut_of := ok_cut_of (P := P) (w := w) (base := base) T
  have h_turned_row := ok_turned_row (P := P) (w := w) (base := base) T
  have h_mirrored := ok_mirrored T h_raw_log h_turned_row
  have h_is_find := ok_is_find T h_is_triple h_is_within
  have h_check_finds := ok_check_finds T h_is_listed h_is_find
  have h_step_of := ok_step_of T h_is_left h_cut_of
  have h_steps_of := ok_steps_of T h_step_of
  have h_cut_on := ok_cut_on (P := P) (w := w) (base := base) T
  have h_cut_back := ok_cut_back (P := P) (w := w) (base := base) T
  have h_latest := ok_latest_shown (P := P) (w := w) (base := base) T
  have h_first := ok_first_bounds (P := P) (w := w) (base := base) T
  have h_denied := ok_is_denied (P := P) (w := w) (base := base) T
  have h_from := ok_bounds_from T h_cut_on h_cut_back
  have h_put := ok_put T h_denied
  have h_spread := ok_spread T h_put h_from
  have h_Family := ok_Family_init T h_latest h_first h_put h_spread
  have h_family_of := ok_family_of T h_Family h_steps_of
  have h_fits := ok_fits T h_family_of
  have h_fit := ok_fit T h_check_finds h_fits
  have h_low := ok_low_cuts T h_family_of
  have h_least := ok_least_cuts T h_check_finds h_low
  have h_turned_finds := ok_turned_finds (P := P) (w := w) (base := base) T
  have h_mirrored_finds := ok_mirrored_finds T h_check_finds h_turned_finds
  have h_high := ok_high_cuts T h_low h_mirrored h_turned_finds
  have h_greatest := ok_greatest_cuts T h_check_finds h_high
  have h_hand := ok__law_hand (P := P) (w := w) (base := base) T
  have h_draw := ok__law_draw (P := P) (w := w) (base := base) T
  have h_row := ok__law_row T h_draw
  have h_rows := ok__law_rows T h_draw h_row
  have h_some := ok__law_some_doing T h_draw
  have h_led := ok__law_led (P := P) (w := w) (base := base) T
  have h_doings := ok__law_doings (P := P) (w := w) (base := base) T
  have h_finds := ok__law_finds T h_draw h_some h_led
  have h_are := ok__law_are_true (P := P) (w := w) (base := base) T
  have h_good := ok__law_good T h_doings h_led h_are
  have h_is0 := ok__law_is0 (P := P) (w := w) (base := base) T
  have h_is := ok__law_is T (ok__law_is T (ok__law_is T (ok__law_is T h_is0)))
  have h_cuts := ok__law_cuts (P := P) (w := w) (base := base) T
  have h_tcuts := ok__law_turned_cuts (P := P) (w := w) (base := base) T
  exact ok_law T h_hand h_draw h_rows h_finds h_Log h_good h_cuts h_is h_greatest h_mirrored_finds h_mirrored h_fit h_least h_tcuts
end
theorem facts {P : Program} {w : World} {K : PySem.W.Frag} {h : Heap} {mg : Str → Option Value} {f : Addr} (X : K.In h) (G : h.Ns mainGlobals mg) (hfa : mg ("law" : Str) = some (.ref f)) (c : He.SaysD fa fn K) :
    ∃ fd : FuncData, (∀ (s : Shared) (v : Value), BindsTo s fd ⟨[v], []⟩ [("_law_script", v)]) ∧ ∀ base : Heap, K.In base → base.Ns mainGlobals mg → FnOk P w K mg base CX0 11 f fd ["_law_script"] (spLaw K) := by
  have T := txt_of X G c
  obtain ⟨fd, F⟩ := T.d_law
  have e := hfa.symm.trans T.g_law
  cases e
  have b := FunD.bindsA (ps := ["_law_script"]) F fun _ _ _ _ _ _ us hl => match us, hl with | [_], _ => rfl
  exact ⟨fd, fun s v => b s [v] rfl, fun base _ _ => law_ok T fd F⟩
end K41
open PySem PySem.W PySem.Calls PyProof.Rows
theorem PySem.Challenge.cw_takenover_k41_whole_greatest_cuts_and_mi_holds : PySem.Challenge.rw_takenover_k41_whole_greatest_cuts_and_mi.Holds := by
  w_on; o_law
  refine HandSHeadRun.head_any (r := OpenLaw.row PySem.Challenge.rw_takenover_k41_whole_greatest_cuts_and_mi) (q := view (OpenLaw.row PySem.Challenge.rw_takenover_k41_whole_greatest_cuts_and_mi).prog [61]) (H := K41.hk) (ob := K41.ob) (M := 6000) (loose := K41.looseAll) (d := HandSHeadRun.topDef (OpenLaw.row PySem.Challenge.rw_takenover_k41_whole_greatest_cuts_and_mi).prog 61) (kwd := []) K41.ob_eq
    (by kernel_rfl) (fun s => by kernel_rfl) K41.run (by kernel_rfl) (by kernel_rfl) (by kernel_rfl) (by rfl) (by first | assumption | decide +kernel) (by decide +kernel) ⟨rfl, rfl, rfl, rfl, rfl, by decide +kernel⟩ ?hw ?hc
  case hw => w_witness2
  case hc =>
    refine L2.walk_ofE (l := PySem.Challenge.rw_takenover_k41_whole_greatest_cuts_and_mi) (n := 63) (k := 11) (x := "_law_script") (CX := L2.CX0) rfl (by decide) (by kernel_rfl) ⟨rfl, by decide, by decide⟩ ?F (fun _ _ _ _ z => z)
    intro w mg fa h Y G hmg0
    obtain ⟨K, KX, c⟩ := Y
    have hmg : mg ("law" : PySem.Str) = some (.ref fa) := by
      have e : (HandSHeadRun.topDef (OpenLaw.row PySem.Challenge.rw_takenover_k41_whole_greatest_cuts_and_mi).prog 61).name = ("law" : PySem.Str) := by kernel_rfl
      rw [← e]
      exact hmg0
    obtain ⟨fd, hb, hF⟩ := K41.facts (P := (PySem.Challenge.rw_takenover_k41_whole_greatest_cuts_and_mi).prog) (w := w) KX G hmg c
    exact ⟨K, fd, K41.spLaw K, KX, hb, fun H a ns hl _ hS => ⟨a, ns, rfl, hS, hl, fun _ => rfl⟩, hF⟩
