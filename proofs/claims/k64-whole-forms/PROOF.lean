import PyProof.Rows.All
import Wide.All
import OpenK.AllK
import Wide.FinOn
import HandS.ForMost
import HandS.ForExc
import HandS.Wide
import HandS.Style
import HandS.Flow
import HandS.IsInst
import HandS.Zip
import HandS.TryMany
import HandS.ExcInit
import HandS.Lambda
import HandS.EndTab
import KE.KExcSuper
import PySem.Challenge.RW_pagefall_k64_whole_forms_compared
import KE.GoesEnum
import HandS.Walk
import HandS.DeepEq
/-! Plain mathematics: forms over Rat, the outline (the program's way) and the envelope (the law's way). -/
namespace KM
abbrev Fm := Rat × Rat
def val (f : Fm) (w : Rat) : Rat := f.1 + f.2 * w
/-- the program's is_greater_behind -/
def isGr (one other : Fm) (w : Rat) : Bool := decide (val other w < val one w) || (decide (val other w = val one w) && decide (other.2 < one.2))
def bestStep (w : Rat) (best one : Fm) : Fm := if isGr one best w then one else best
def bestOf (fs : List Fm) (w : Rat) : Fm := fs.foldl (bestStep w) (fs.headD (0, 0))
def rootUp (best one : Fm) : Rat := (best.1 - one.1) / (one.2 - best.2)
def endsOf (fs : List Fm) (best : Fm) : List Rat := (fs.filter (fun one => decide (best.2 < one.2))).map (rootUp best)
def leastStep (found one : Rat) : Rat := if one < found then one else found
def leastOf (xs : List Rat) : Rat := xs.foldl leastStep (xs.headD 0)
def nextEnd (fs : List Fm) (best : Fm) : Option Rat := if endsOf fs best ≠ [] then some (leastOf (endsOf fs best)) else none
structure Piece where
  low : Rat
  isin : Bool
  high : Option Rat
  form : Fm
def outl (fs : List Fm) : Nat → Rat → Bool → List Piece
  | 0, _, _ => []
  | n + 1, s, c => match nextEnd fs (bestOf fs s) with
    | none => [⟨s, c, none, bestOf fs s⟩]
    | some h => ⟨s, c, some h, bestOf fs s⟩ :: outl fs n h false
def cnt (fs : List Fm) (b : Fm) : Nat := fs.countP (fun one => decide (b.2 < one.2))

/-- b is the greatest at w, and the steepest of these -/
structure Top (fs : List Fm) (w : Rat) (b : Fm) : Prop where
  mem : b ∈ fs
  le : ∀ f ∈ fs, val f w < val b w ∨ (val f w = val b w ∧ f.2 ≤ b.2)
theorem Top.uniq {fs : List Fm} {w : Rat} {b c : Fm} (h : Top fs w b) (k : Top fs w c) : b = c := by
  have h1 := h.le c k.mem
  have h2 := k.le b h.mem
  obtain ⟨b1, b2⟩ := b
  obtain ⟨c1, c2⟩ := c
  simp only [val] at h1 h2
  have e2 : b2 = c2 := by grind
  subst e2
  have e1 : b1 = c1 := by grind
  rw [e1]
theorem bestStep_top {w : Rat} {b f : Fm} : (bestStep w b f = f ∧ (val b w < val f w ∨ (val b w = val f w ∧ b.2 < f.2))) ∨ (bestStep w b f = b ∧ (val f w < val b w ∨ (val f w = val b w ∧ f.2 ≤ b.2))) := by
  unfold bestStep isGr
  by_cases h : (decide (val b w < val f w) || (decide (val b w = val f w) && decide (b.2 < f.2))) = true
  · rw [if_pos h]
    simp at h
    left
    exact ⟨rfl, by grind⟩
  · rw [if_neg h]
    simp at h
    right
    exact ⟨rfl, by grind⟩
theorem fold_top {w : Rat} : ∀ (fs : List Fm) (b : Fm), (fs.foldl (bestStep w) b = b ∨ fs.foldl (bestStep w) b ∈ fs) ∧
    ∀ f, f = b ∨ f ∈ fs → val f w < val (fs.foldl (bestStep w) b) w ∨ (val f w = val (fs.foldl (bestStep w) b) w ∧ f.2 ≤ (fs.foldl (bestStep w) b).2)
  | [], b => ⟨.inl rfl, fun f h => by
    rcases h with rfl | h
    · exact .inr ⟨rfl, Rat.le_refl⟩
    · cases h⟩
  | g :: fs, b => by
    have ih := fold_top (w := w) fs (bestStep w b g)
    show ((fs.foldl (bestStep w) (bestStep w b g)) = b ∨ (fs.foldl (bestStep w) (bestStep w b g)) ∈ g :: fs) ∧ _
    have hs := bestStep_top (w := w) (b := b) (f := g)
    refine ⟨?_, fun f hf => ?_⟩
    · rcases ih.1 with h | h
      · rcases hs with ⟨e, _⟩ | ⟨e, _⟩
        · right; rw [h, e]; exact List.mem_cons_self
        · left; rw [h, e]
      · right; exact List.mem_cons_of_mem _ h
    · show val f w < val (fs.foldl (bestStep w) (bestStep w b g)) w ∨ (val f w = val (fs.foldl (bestStep w) (bestStep w b g)) w ∧ f.2 ≤ (fs.foldl (bestStep w) (bestStep w b g)).2)
      have h0 := ih.2 _ (.inl rfl)
      rcases hf with rfl | hf
      · rcases hs with ⟨e, h⟩ | ⟨e, h⟩
        · rw [e] at h0 ⊢; grind
        · rw [e] at h0 ⊢; exact h0
      · rcases List.mem_cons.mp hf with rfl | hf
        · rcases hs with ⟨e, h⟩ | ⟨e, h⟩
          · rw [e] at h0 ⊢; exact h0
          · rw [e] at h0 ⊢; grind
        · exact ih.2 f (.inr hf)
theorem bestOf_top {fs : List Fm} (hne : fs ≠ []) (w : Rat) : Top fs w (bestOf fs w) := by
  cases fs with
  | nil => exact absurd rfl hne
  | cons g fs =>
    have h := fold_top (w := w) (g :: fs) g
    refine ⟨?_, fun f hf => h.2 f (.inr hf)⟩
    rcases h.1 with e | e
    · show List.foldl (bestStep w) g (g :: fs) ∈ _
      rw [e]; exact List.mem_cons_self
    · exact e
theorem fold_least : ∀ (xs : List Rat) (b : Rat), (xs.foldl leastStep b = b ∨ xs.foldl leastStep b ∈ xs) ∧ ∀ f, f = b ∨ f ∈ xs → xs.foldl leastStep b ≤ f
  | [], b => ⟨.inl rfl, fun f h => by
    rcases h with rfl | h
    · exact Rat.le_refl
    · cases h⟩
  | g :: xs, b => by
    have ih := fold_least xs (leastStep b g)
    have hs : (leastStep b g = g ∧ g < b) ∨ (leastStep b g = b ∧ b ≤ g) := by
      unfold leastStep
      by_cases h : g < b
      · rw [if_pos h]; exact .inl ⟨rfl, h⟩
      · rw [if_neg h]; exact .inr ⟨rfl, by grind⟩
    refine ⟨?_, fun f hf => ?_⟩
    · rcases ih.1 with h | h
      · rcases hs with ⟨e, _⟩ | ⟨e, _⟩
        · right; show xs.foldl leastStep (leastStep b g) ∈ _; rw [h, e]; exact List.mem_cons_self
        · left; show xs.foldl leastStep (leastStep b g) = _; rw [h, e]
      · right; exact List.mem_cons_of_mem _ h
    · show xs.foldl leastStep (leastStep b g) ≤ f
      have h0 := ih.2 _ (.inl rfl)
      rcases hf with rfl | hf
      · grind
      · rcases List.mem_cons.mp hf with rfl | hf
        · grind
        · exact ih.2 f (.inr hf)
theorem leastOf_spec {xs : List Rat} (hne : xs ≠ []) : leastOf xs ∈ xs ∧ ∀ x ∈ xs, leastOf xs ≤ x := by
  cases xs with
  | nil => exact absurd rfl hne
  | cons g xs =>
    have h := fold_least (g :: xs) g
    refine ⟨?_, fun f hf => h.2 f (.inr hf)⟩
    rcases h.1 with e | e
    · show List.foldl leastStep g (g :: xs) ∈ _
      rw [e]; exact List.mem_cons_self
    · exact e
theorem mem_ends {fs : List Fm} {b : Fm} {x : Rat} : x ∈ endsOf fs b ↔ ∃ f ∈ fs, b.2 < f.2 ∧ x = rootUp b f := by
  unfold endsOf
  simp only [List.mem_map, List.mem_filter, decide_eq_true_eq]
  constructor
  · rintro ⟨f, ⟨h1, h2⟩, e⟩; exact ⟨f, h1, h2, e.symm⟩
  · rintro ⟨f, h1, h2, e⟩; exact ⟨f, ⟨h1, h2⟩, e.symm⟩
theorem nextEnd_none {fs : List Fm} {b : Fm} (h : nextEnd fs b = none) : ∀ f ∈ fs, f.2 ≤ b.2 := by
  intro f hf
  unfold nextEnd at h
  by_cases e : endsOf fs b = []
  · by_cases hl : b.2 < f.2
    · have : rootUp b f ∈ endsOf fs b := mem_ends.mpr ⟨f, hf, hl, rfl⟩
      rw [e] at this; cases this
    · grind
  · rw [if_pos e] at h; cases h
theorem nextEnd_some {fs : List Fm} {b : Fm} {h : Rat} (e : nextEnd fs b = some h) : (∃ f ∈ fs, b.2 < f.2 ∧ h = rootUp b f) ∧ ∀ f ∈ fs, b.2 < f.2 → h ≤ rootUp b f := by
  unfold nextEnd at e
  by_cases n : endsOf fs b = []
  · rw [if_neg (by simpa using n)] at e; cases e
  · rw [if_pos n] at e
    cases e
    have q := leastOf_spec n
    exact ⟨mem_ends.mp q.1, fun f hf hl => q.2 _ (mem_ends.mpr ⟨f, hf, hl, rfl⟩)⟩
theorem nextEnd_is {fs : List Fm} {b : Fm} {h : Rat} (h1 : ∃ f ∈ fs, b.2 < f.2 ∧ h = rootUp b f) (h2 : ∀ f ∈ fs, b.2 < f.2 → h ≤ rootUp b f) : nextEnd fs b = some h := by
  cases e : nextEnd fs b with
  | none =>
    obtain ⟨f, hf, hl, _⟩ := h1
    have := nextEnd_none e f hf
    grind
  | some x =>
    obtain ⟨⟨g, hg, hgl, ex⟩, q2⟩ := nextEnd_some e
    obtain ⟨f, hf, hl, eh⟩ := h1
    have a1 := q2 f hf hl
    have a2 := h2 g hg hgl
    rw [← eh] at a1
    rw [← ex] at a2
    have : x = h := by grind
    rw [this]
theorem nextEnd_is_none {fs : List Fm} {b : Fm} (h : ∀ f ∈ fs, f.2 ≤ b.2) : nextEnd fs b = none := by
  cases e : nextEnd fs b with
  | none => rfl
  | some x =>
    obtain ⟨⟨g, hg, hgl, ex⟩, q2⟩ := nextEnd_some e
    have := h g hg
    grind
/-! ### order and products -/
theorem mul_pos' {a b : Rat} (ha : 0 < a) (hb : 0 < b) : 0 < a * b := Rat.mul_pos ha hb
theorem mul_lt' {a b c : Rat} (h : a < b) (hc : 0 < c) : a * c < b * c := by
  have h1 : 0 < b - a := by grind
  have := Rat.mul_pos h1 hc
  grind
theorem mul_le' {a b c : Rat} (h : a ≤ b) (hc : 0 ≤ c) : a * c ≤ b * c := by
  have h1 : 0 ≤ b - a := by grind
  have := Rat.mul_nonneg h1 hc
  grind
theorem div_mul' {a b : Rat} (hb : b ≠ 0) : a / b * b = a := by grind
/-- f above b from rootUp on: for f steeper than b: val f w ≤ val b w iff w ≤ rootUp b f -/
theorem le_root {b f : Fm} (h : b.2 < f.2) (w : Rat) : val f w ≤ val b w ↔ w ≤ rootUp b f := by
  unfold val rootUp
  have hp : 0 < f.2 - b.2 := by grind
  have e := div_mul' (a := b.1 - f.1) (b := f.2 - b.2) (by grind)
  generalize (b.1 - f.1) / (f.2 - b.2) = r at e ⊢
  constructor
  · intro hle
    by_cases hw : w ≤ r
    · exact hw
    · have := mul_lt' (show r < w by grind) hp
      grind
  · intro hle
    have := mul_le' hle (show (0:Rat) ≤ f.2 - b.2 by grind)
    grind
theorem lt_root {b f : Fm} (h : b.2 < f.2) (w : Rat) : val f w < val b w ↔ w < rootUp b f := by
  unfold val rootUp
  have hp : 0 < f.2 - b.2 := by grind
  have e := div_mul' (a := b.1 - f.1) (b := f.2 - b.2) (by grind)
  generalize (b.1 - f.1) / (f.2 - b.2) = r at e ⊢
  constructor
  · intro hle
    by_cases hw : w < r
    · exact hw
    · have := mul_le' (show r ≤ w by grind) (show (0:Rat) ≤ f.2 - b.2 by grind)
      grind
  · intro hle
    have := mul_lt' hle hp
    grind
theorem val_root {b f : Fm} (h : b.2 < f.2) : val f (rootUp b f) = val b (rootUp b f) := by
  unfold val rootUp
  have e := div_mul' (a := b.1 - f.1) (b := f.2 - b.2) (by grind)
  generalize (b.1 - f.1) / (f.2 - b.2) = r at e ⊢
  grind
theorem flat_le {b f : Fm} (h : f.2 ≤ b.2) {s w : Rat} (hs : s ≤ w) (hv : val f s ≤ val b s) : val f w ≤ val b w := by
  unfold val at *
  have := mul_le' hs (show (0:Rat) ≤ b.2 - f.2 by grind)
  grind
theorem flat_lt {b f : Fm} (h : f.2 < b.2) {s w : Rat} (hs : s < w) (hv : val f s ≤ val b s) : val f w < val b w := by
  unfold val at *
  have := mul_lt' hs (show (0:Rat) < b.2 - f.2 by grind)
  grind
theorem Top.ge {fs : List Fm} {w : Rat} {b : Fm} (t : Top fs w b) {f : Fm} (hf : f ∈ fs) : val f w ≤ val b w := by
  rcases t.le f hf with h | ⟨h, _⟩ <;> grind
/-- the widths from s on at which b is above all -/
theorem Top.on {fs : List Fm} {s : Rat} {b : Fm} (t : Top fs s b) {w : Rat} (hw : s ≤ w) : (∀ f ∈ fs, val f w ≤ val b w) ↔ ∀ h, nextEnd fs b = some h → w ≤ h := by
  constructor
  · intro h x e
    obtain ⟨⟨f, hf, hl, ex⟩, _⟩ := nextEnd_some e
    rw [ex]
    exact (le_root hl w).mp (h f hf)
  · intro h f hf
    by_cases hl : b.2 < f.2
    · cases e : nextEnd fs b with
      | none => have := nextEnd_none e f hf; grind
      | some x =>
        have h1 := (nextEnd_some e).2 f hf hl
        have h2 := h x e
        exact (le_root hl w).mpr (by grind)
    · exact flat_le (by grind) hw (t.ge hf)
theorem Top.next_gt {fs : List Fm} {s : Rat} {b : Fm} (t : Top fs s b) {h : Rat} (e : nextEnd fs b = some h) : s < h := by
  obtain ⟨⟨f, hf, hl, ex⟩, _⟩ := nextEnd_some e
  rw [ex]
  refine (lt_root hl s).mp ?_
  rcases t.le f hf with q | ⟨_, q⟩ <;> grind
theorem cnt_lt {fs : List Fm} {b c : Fm} (hc : c ∈ fs) (h : b.2 < c.2) : cnt fs c < cnt fs b := by
  unfold cnt
  induction fs with
  | nil => cases hc
  | cons g fs ih =>
    rw [List.countP_cons, List.countP_cons]
    rcases List.mem_cons.mp hc with e | hm
    · have h1 : (decide (c.2 < g.2)) = false := by rw [← e]; simp
      have h2 : (decide (b.2 < g.2)) = true := by rw [← e]; simpa using h
      rw [h1, h2]
      have : List.countP (fun one => decide (c.2 < one.2)) fs ≤ List.countP (fun one => decide (b.2 < one.2)) fs :=
        List.countP_mono_left fun x _ hx => by simp at hx ⊢; grind
      simp
      omega
    · have := ih hm
      by_cases k : c.2 < g.2
      · have k2 : b.2 < g.2 := by grind
        simp [k, k2]; exact this
      · simp [k]; omega
theorem next_best {fs : List Fm} {s : Rat} {b : Fm} (t : Top fs s b) {h : Rat} (e : nextEnd fs b = some h) : cnt fs (bestOf fs h) < cnt fs b := by
  have hne : fs ≠ [] := fun z => by have := t.mem; rw [z] at this; cases this
  have t2 := bestOf_top hne h
  refine cnt_lt t2.mem ?_
  obtain ⟨⟨f, hf, hl, ex⟩, _⟩ := nextEnd_some e
  have hb : ∀ g ∈ fs, val g h ≤ val b h := (t.on (by have := t.next_gt e; grind)).mpr (fun x ex' => by rw [e] at ex'; cases ex'; exact Rat.le_refl)
  have h1 := t2.le f hf
  have h2 := hb _ t2.mem
  have h3 := val_root hl
  rw [← ex] at h3
  rcases h1 with q | ⟨_, q⟩ <;> grind
/-- a turn of the loop -/
theorem outl_step {fs : List Fm} (hne : fs ≠ []) {n : Nat} {s : Rat} (c : Bool) (hn : cnt fs (bestOf fs s) < n) :
    ∃ m, n = m + 1 ∧ (nextEnd fs (bestOf fs s) = none → outl fs n s c = [⟨s, c, none, bestOf fs s⟩]) ∧
      ∀ h, nextEnd fs (bestOf fs s) = some h → outl fs n s c = ⟨s, c, some h, bestOf fs s⟩ :: outl fs m h false ∧ cnt fs (bestOf fs h) < m ∧ s < h := by
  cases n with
  | zero => omega
  | succ m =>
    refine ⟨m, rfl, fun e => ?_, fun h e => ⟨?_, ?_, (bestOf_top hne s).next_gt e⟩⟩
    · show (match nextEnd fs (bestOf fs s) with | none => _ | some h => _) = _
      rw [e]
    · show (match nextEnd fs (bestOf fs s) with | none => _ | some h => _) = _
      rw [e]
    · have := next_best (bestOf_top hne s) e
      omega
theorem cnt_le (fs : List Fm) (b : Fm) : cnt fs b ≤ fs.length := List.countP_le_length
end KM
namespace KM
/-! ### the law's way -/
/-- a stretch: low, closed, high, closed -/
abbrev Str4 := Rat × Bool × Option Rat × Bool
def allW : Str4 := (0, true, none, false)
def lUpto (one other : Fm) : List Str4 :=
  if one.2 = other.2 then (if other.1 < one.1 then [] else [allW])
  else if other.2 < one.2 then (if rootUp other one < 0 then [] else [(0, true, some (rootUp other one), true)])
  else [(if 0 < rootUp other one then rootUp other one else 0, true, none, false)]
def lBelow (one other : Fm) : List Str4 :=
  if one.2 = other.2 then (if one.1 < other.1 then [allW] else [])
  else if other.2 < one.2 then (if 0 < rootUp other one then [(0, true, some (rootUp other one), false)] else [])
  else if rootUp other one < 0 then [allW] else [(rootUp other one, false, none, false)]
/-- the part that bounds form by other: low and high -/
def partOf (other form : Fm) : Rat × Option Rat := match lUpto other form with
  | [] => (1, some 0)
  | p :: _ => (p.1, p.2.2.1)
def lowStep (lo a : Rat) : Rat := if lo < a then a else lo
def highStep : Option Rat → Option Rat → Option Rat
  | none, h => h
  | some x, none => some x
  | some x, some y => if y < x then some y else some x
def topStep (form : Fm) (s : Rat × Option Rat) (other : Fm) : Rat × Option Rat := (lowStep s.1 (partOf other form).1, highStep s.2 (partOf other form).2)
def topFold (fs : List Fm) (form : Fm) : Rat × Option Rat := fs.foldl (topStep form) (0, none)
def topS (fs : List Fm) (form : Fm) : Option (Rat × Option Rat) :=
  match (topFold fs form).2 with
  | none => some (topFold fs form)
  | some h => if h < (topFold fs form).1 then none else some (topFold fs form)
def hiLt : Option Rat → Option Rat → Bool
  | some _, none => true
  | some x, some y => decide (x < y)
  | none, _ => false
def envStep (fs : List Fm) (start : Rat) (best : Option (Fm × Option Rat)) (form : Fm) : Option (Fm × Option Rat) :=
  match topS fs form with
  | none => best
  | some (lo, hi) => if start < lo then best else match best with
    | none => some (form, hi)
    | some (_, bh) => if hiLt bh hi then some (form, hi) else best
def envBest (fs : List Fm) (start : Rat) : Option (Fm × Option Rat) := fs.foldl (envStep fs start) none
/-- in the range -/
def inR (s : Rat × Option Rat) (w : Rat) : Prop := s.1 ≤ w ∧ ∀ x, s.2 = some x → w ≤ x
theorem part_in {other form : Fm} {w : Rat} (hw : 0 ≤ w) : inR (partOf other form) w ↔ val other w ≤ val form w := by
  unfold partOf lUpto inR
  by_cases h1 : other.2 = form.2
  · rw [if_pos h1]
    by_cases h2 : form.1 < other.1
    · rw [if_pos h2]
      unfold val
      simp only [Option.some.injEq]
      constructor
      · rintro ⟨a, b⟩
        have := b 0 rfl
        grind
      · intro h
        rw [h1] at h
        grind
    · rw [if_neg h2]
      unfold val allW
      constructor
      · rintro _
        rw [h1]; grind
      · intro _
        exact ⟨hw, fun x e => by cases e⟩
  · rw [if_neg h1]
    by_cases h2 : form.2 < other.2
    · rw [if_pos h2]
      by_cases h3 : rootUp form other < 0
      · rw [if_pos h3]
        have := le_root h2 w
        constructor
        · rintro ⟨a, b⟩
          have := b 0 rfl
          grind
        · intro h
          have := this.mp h
          grind
      · rw [if_neg h3]
        have := le_root h2 w
        constructor
        · rintro ⟨a, b⟩
          exact this.mpr (b _ rfl)
        · intro h
          exact ⟨hw, fun x e => by cases e; exact this.mp h⟩
    · rw [if_neg h2]
      have h4 : other.2 < form.2 := by grind
      have er : rootUp form other = rootUp other form := by unfold rootUp; grind
      have := lt_root h4 w
      rw [er]
      dsimp only
      constructor
      · rintro ⟨a, _⟩
        have a' : rootUp other form ≤ w := by split at a <;> grind
        have : ¬ val form w < val other w := fun h => by have := this.mp h; grind
        grind
      · intro h
        have a' : rootUp other form ≤ w := by
          by_cases q : w < rootUp other form
          · have := this.mpr q; grind
          · grind
        refine ⟨by split <;> assumption, fun x e => by cases e⟩
theorem step_in {form : Fm} {s : Rat × Option Rat} {o : Fm} {w : Rat} : inR (topStep form s o) w ↔ inR s w ∧ inR (partOf o form) w := by
  obtain ⟨lo, hi⟩ := s
  unfold topStep inR lowStep
  generalize partOf o form = p
  obtain ⟨a, h⟩ := p
  dsimp only
  cases hi with
  | none =>
    cases h with
    | none => simp [highStep]; split <;> grind
    | some y => simp [highStep]; split <;> grind
  | some x =>
    cases h with
    | none => simp [highStep]; split <;> grind
    | some y =>
      simp [highStep]
      by_cases q : y < x
      · rw [if_pos q]; simp; split <;> grind
      · rw [if_neg q]; simp; split <;> grind
theorem fold_in {form : Fm} {w : Rat} (hw : 0 ≤ w) : ∀ (fs : List Fm) (s : Rat × Option Rat), inR (fs.foldl (topStep form) s) w ↔ inR s w ∧ ∀ o ∈ fs, val o w ≤ val form w
  | [], s => by simp
  | g :: fs, s => by
    show inR (fs.foldl (topStep form) (topStep form s g)) w ↔ _
    rw [fold_in hw fs, step_in, part_in hw]
    simp only [List.mem_cons, forall_eq_or_imp]
    constructor
    · rintro ⟨⟨a, b⟩, c⟩; exact ⟨a, b, c⟩
    · rintro ⟨a, b, c⟩; exact ⟨⟨a, b⟩, c⟩
theorem fold_low {form : Fm} : ∀ (fs : List Fm) (s : Rat × Option Rat), s.1 ≤ (fs.foldl (topStep form) s).1
  | [], s => Rat.le_refl
  | g :: fs, s => by
    show s.1 ≤ (fs.foldl (topStep form) (topStep form s g)).1
    have h1 := fold_low (form := form) fs (topStep form s g)
    have h2 : s.1 ≤ (topStep form s g).1 := by
      unfold topStep lowStep
      dsimp only
      split <;> grind
    grind
theorem topFold_in (fs : List Fm) (form : Fm) {w : Rat} (hw : 0 ≤ w) : inR (topFold fs form) w ↔ ∀ o ∈ fs, val o w ≤ val form w := by
  unfold topFold
  rw [fold_in hw]
  constructor
  · rintro ⟨_, h⟩; exact h
  · intro h
    exact ⟨⟨hw, fun x e => by cases e⟩, h⟩
theorem topFold_low (fs : List Fm) (form : Fm) : 0 ≤ (topFold fs form).1 := fold_low fs (0, none)
/-- the best one's own stretch -/
theorem top_best {fs : List Fm} {s : Rat} {b : Fm} (hs : 0 ≤ s) (t : Top fs s b) : ∃ lo, topS fs b = some (lo, nextEnd fs b) ∧ lo ≤ s := by
  have hin := fun {w : Rat} (hw : 0 ≤ w) => topFold_in fs b hw
  have hl := topFold_low fs b
  have s_in : inR (topFold fs b) s := (hin hs).mpr fun o ho => t.ge ho
  have on := fun {w : Rat} (hw : s ≤ w) => (hin (show 0 ≤ w by grind)).trans (t.on hw)
  unfold inR at on s_in
  generalize e : topFold fs b = r at *
  obtain ⟨lo, hi⟩ := r
  have ehi : hi = nextEnd fs b := by
    cases hi with
    | none =>
      cases en : nextEnd fs b with
      | none => rfl
      | some h =>
        have g := t.next_gt en
        have := (on (w := h + 1) (by grind)).mp ⟨by grind, fun x e => by cases e⟩ h en
        grind
    | some x =>
      cases en : nextEnd fs b with
      | none =>
        have h1 := s_in.2 x rfl
        have := (on (w := x + 1) (by grind)).mpr (fun h e => by rw [en] at e; cases e)
        have := this.2 x rfl
        grind
      | some h =>
        have g := t.next_gt en
        have h1 := s_in.2 x rfl
        have a1 := (on (w := x) h1).mp ⟨by grind, fun y e => by cases e; exact Rat.le_refl⟩ h en
        have a2 := ((on (w := h) (by grind)).mpr (fun y e => by rw [en] at e; cases e; exact Rat.le_refl)).2 x rfl
        have : x = h := by grind
        rw [this]
  refine ⟨lo, ?_, s_in.1⟩
  unfold topS
  rw [e]
  dsimp only
  cases hi with
  | none => dsimp only; rw [ehi]
  | some x =>
    dsimp only
    rw [if_neg (by have := s_in.2 x rfl; grind), ehi]
/-- any other one's -/
theorem top_other {fs : List Fm} {s : Rat} {b f : Fm} (hs : 0 ≤ s) (t : Top fs s b) (hf : f ∈ fs) {lo : Rat} {hi : Option Rat} (e : topS fs f = some (lo, hi)) (hlo : ¬ s < lo) : f = b ∨ hiLt hi (nextEnd fs b) = true := by
  have hin := fun {w : Rat} (hw : 0 ≤ w) => topFold_in fs f hw
  have ef : topFold fs f = (lo, hi) := by
    unfold topS at e
    generalize topFold fs f = r at e
    split at e
    · exact Option.some.inj e
    · split at e
      · cases e
      · exact Option.some.inj e
  rw [ef] at hin
  unfold inR at hin
  have hb : ∀ h, nextEnd fs b = some h → s < h := fun h => t.next_gt
  by_cases q : ∀ x, hi = some x → s ≤ x
  · have s_in := (hin hs).mp ⟨by grind, q⟩
    have h1 := s_in b t.mem
    rcases t.le f hf with k | ⟨k, ks⟩
    · grind
    · by_cases e2 : f.2 = b.2
      · left
        obtain ⟨f1, f2⟩ := f
        obtain ⟨b1, b2⟩ := b
        simp only [val] at *
        subst e2
        have : f1 = b1 := by grind
        rw [this]
      · right
        have fl : f.2 < b.2 := by grind
        have none_in : ∀ w, s < w → ¬ ∀ x, hi = some x → w ≤ x := fun w hw h => by
          have := (hin (w := w) (by grind)).mp ⟨by grind, h⟩ b t.mem
          have := flat_lt fl hw (by grind : val f s ≤ val b s)
          grind
        cases hi with
        | none => exact absurd (fun x e => by cases e) (none_in (s + 1) (by grind))
        | some x =>
          have hx : x ≤ s := by
            by_cases z : s < x
            · exact absurd (fun y e => by cases e; exact Rat.le_refl) (none_in x z)
            · grind
          cases en : nextEnd fs b with
          | none => rfl
          | some h => have := hb h en; simp [hiLt]; grind
  · right
    cases hi with
    | none => exact absurd (fun x e => by cases e) q
    | some x =>
      have hx : x < s := by
        by_cases z : x < s
        · exact z
        · exact absurd (fun y e => by cases e; grind) q
      cases en : nextEnd fs b with
      | none => rfl
      | some h => have := hb h en; simp [hiLt]; grind
theorem hiLt_irrefl (h : Option Rat) : hiLt h h = false := by
  cases h with
  | none => rfl
  | some x => simp [hiLt]
theorem hiLt_asymm {h k : Option Rat} (a : hiLt h k = true) : hiLt k h = false := by
  cases h with
  | none => cases a
  | some x =>
    cases k with
    | none => rfl
    | some y => simp [hiLt] at a ⊢; grind
theorem env_fold {fs : List Fm} {s : Rat} {b : Fm} (hs : 0 ≤ s) (t : Top fs s b) : ∀ (gs : List Fm) (best : Option (Fm × Option Rat)), (∀ g ∈ gs, g ∈ fs) →
    ((best = some (b, nextEnd fs b)) ∨ ((best = none ∨ ∃ f h, best = some (f, h) ∧ hiLt h (nextEnd fs b) = true) ∧ b ∈ gs)) → gs.foldl (envStep fs s) best = some (b, nextEnd fs b)
  | [], best, _, h => by
    rcases h with h | ⟨_, h⟩
    · exact h
    · cases h
  | g :: gs, best, hg, h => by
    show gs.foldl (envStep fs s) (envStep fs s best g) = _
    refine env_fold hs t gs _ (fun x hx => hg x (List.mem_cons_of_mem _ hx)) ?_
    obtain ⟨lob, eb, lb⟩ := top_best hs t
    have gm := hg g List.mem_cons_self
    unfold envStep
    rcases h with h | ⟨h, hm⟩
    · left
      rw [h]
      cases e : topS fs g with
      | none => rfl
      | some r =>
        obtain ⟨lo, hi⟩ := r
        dsimp only
        by_cases q : s < lo
        · rw [if_pos q]
        · rw [if_neg q]
          rcases top_other hs t gm e q with z | z
          · rw [z, eb] at e
            cases e
            rw [if_neg (by rw [hiLt_irrefl]; decide)]
          · rw [if_neg (by rw [hiLt_asymm z]; decide)]
    · by_cases z : g = b
      · left
        rw [z, eb]
        dsimp only
        rw [if_neg (by grind)]
        rcases h with h | ⟨f, k, h, hk⟩
        · rw [h]
        · rw [h]
          dsimp only
          rw [if_pos hk]
      · right
        refine ⟨?_, ?_⟩
        · cases e : topS fs g with
          | none => exact h
          | some r =>
            obtain ⟨lo, hi⟩ := r
            dsimp only
            by_cases q : s < lo
            · rw [if_pos q]; exact h
            · rw [if_neg q]
              rcases top_other hs t gm e q with y | y
              · exact absurd y z
              · rcases h with h | ⟨f, k, h, hk⟩
                · rw [h]; exact .inr ⟨g, hi, rfl, y⟩
                · rw [h]
                  dsimp only
                  split
                  · exact .inr ⟨g, hi, rfl, y⟩
                  · exact .inr ⟨f, k, rfl, hk⟩
        · rcases List.mem_cons.mp hm with y | y
          · exact absurd y.symm z
          · exact y
/-- THE LAW'S BEST IS THE PROGRAM'S -/
theorem envBest_is {fs : List Fm} (hne : fs ≠ []) {s : Rat} (hs : 0 ≤ s) : envBest fs s = some (bestOf fs s, nextEnd fs (bestOf fs s)) := by
  have t := bestOf_top hne s
  exact env_fold hs t fs none (fun _ h => h) (.inr ⟨.inl rfl, t.mem⟩)
/-! ### where one is at most, below another: the program's way -/
def isStr (lo : Rat) (c : Bool) (hi : Option Rat) (d : Bool) : Bool := match hi with
  | none => !d
  | some h => decide (0 ≤ h) && (decide (lo < h) || (decide (lo ≤ h) && c && d))
def upZero (form : Fm) (below : Bool) : List Str4 :=
  if form.2 = 0 then (if form.1 < 0 ∨ (form.1 = 0 ∧ below = false) then [allW] else [])
  else if 0 < form.2 then (if isStr 0 true (some ((0 - form.1) / form.2)) (!below) = true then [(0, true, some ((0 - form.1) / form.2), !below)] else [])
  else if (0 - form.1) / form.2 < 0 then [allW] else [((0 - form.1) / form.2, !below, none, false)]
def subF (one other : Fm) : Fm := (one.1 - other.1, one.2 - other.2)
theorem upZero_upto (one other : Fm) : upZero (subF one other) false = lUpto one other := by
  obtain ⟨a, b⟩ := one
  obtain ⟨c, d⟩ := other
  have er : (0 - (a - c)) / (b - d) = rootUp (c, d) (a, b) := by unfold rootUp; grind
  unfold upZero lUpto subF isStr
  dsimp only
  rw [er]
  by_cases h1 : b = d
  · rw [if_pos (show b - d = 0 by grind), if_pos h1]
    by_cases h2 : c < a
    · rw [if_neg (by grind), if_pos h2]
    · rw [if_pos (by grind), if_neg h2]
  · rw [if_neg (show ¬ b - d = 0 by grind), if_neg h1]
    generalize rootUp (c, d) (a, b) = r
    by_cases h2 : d < b
    · rw [if_pos (show 0 < b - d by grind), if_pos h2]
      by_cases h3 : r < 0
      · rw [if_neg (by simp; grind), if_pos h3]
      · rw [if_pos (by simp; grind), if_neg h3]
        rfl
    · rw [if_neg (show ¬ 0 < b - d by grind), if_neg h2]
      by_cases h3 : 0 < r
      · rw [if_neg (by grind), if_pos h3]; rfl
      · rw [if_neg h3]
        by_cases h4 : r < 0
        · rw [if_pos h4]; rfl
        · rw [if_neg h4]
          have : r = 0 := by grind
          rw [this]; rfl
theorem upZero_below (one other : Fm) : upZero (subF one other) true = lBelow one other := by
  obtain ⟨a, b⟩ := one
  obtain ⟨c, d⟩ := other
  have er : (0 - (a - c)) / (b - d) = rootUp (c, d) (a, b) := by unfold rootUp; grind
  unfold upZero lBelow subF isStr
  dsimp only
  rw [er]
  by_cases h1 : b = d
  · rw [if_pos (show b - d = 0 by grind), if_pos h1]
    by_cases h2 : a < c
    · rw [if_pos (by grind), if_pos h2]
    · rw [if_neg (by grind), if_neg h2]
  · rw [if_neg (show ¬ b - d = 0 by grind), if_neg h1]
    generalize rootUp (c, d) (a, b) = r
    by_cases h2 : d < b
    · rw [if_pos (show 0 < b - d by grind), if_pos h2]
      by_cases h3 : 0 < r
      · rw [if_pos (by simp; grind), if_pos h3]
        rfl
      · rw [if_neg (by simp; grind), if_neg h3]
    · rw [if_neg (show ¬ 0 < b - d by grind), if_neg h2]
      by_cases h4 : r < 0
      · rw [if_pos h4, if_pos h4]
      · rw [if_neg h4, if_neg h4]
        rfl
/-! ### forty forms -/
def ff (c : Rat) (k : Nat) : Fm := (-((k : Rat) * k * c), 2 * k * c)
theorem ff_val (c : Rat) (k : Nat) (w : Rat) : val (ff c k) w = c * (2 * k * w - k * k) := by
  unfold val ff; grind
theorem castLt {j k : Nat} : ((j : Rat) < (k : Rat)) ↔ j < k := by
  constructor
  · intro h
    by_cases q : j < k
    · exact q
    · have : (k : Rat) ≤ j := Rat.natCast_le_natCast.mpr (by omega)
      grind
  · intro h; exact Rat.natCast_lt_natCast.mpr h
theorem castLe {j k : Nat} : ((j : Rat) ≤ (k : Rat)) ↔ j ≤ k := Rat.natCast_le_natCast
end KM
namespace KM
/-! ### fractions as pairs in lowest terms -/
theorem num_of {t : Int} {b : Nat} (hb : 0 < b) : (mkRat t b).num = t / ((t.natAbs.gcd b : Nat) : Int) := by
  rw [Rat.num_mkRat, if_neg (by omega), Nat.gcd_comm]
theorem den_of {t : Int} {b : Nat} (hb : 0 < b) : (mkRat t b).den = b / t.natAbs.gcd b := by
  rw [Rat.den_mkRat, if_neg (by omega), Nat.gcd_comm]
def Sz (n : Nat) (q : Rat) : Prop := q.num.natAbs < 2 ^ n ∧ q.den < 2 ^ n
theorem Sz.mono {m n : Nat} {q : Rat} (h : Sz m q) (l : m ≤ n) : Sz n q :=
  ⟨Nat.lt_of_lt_of_le h.1 (Nat.pow_le_pow_right (by decide) l), Nat.lt_of_lt_of_le h.2 (Nat.pow_le_pow_right (by decide) l)⟩
theorem natAbs_ediv_le (t : Int) (g : Nat) : (t / (g : Int)).natAbs ≤ t.natAbs := Int.natAbs_ediv_le_natAbs t g
theorem Sz.mk {n : Nat} {t : Int} {b : Nat} (hb : 0 < b) (h1 : t.natAbs < 2 ^ n) (h2 : b < 2 ^ n) : Sz n (mkRat t b) := by
  refine ⟨?_, ?_⟩
  · rw [num_of hb]
    by_cases hg : (t.natAbs.gcd b) = 0
    · rw [hg]; simp; exact Nat.two_pow_pos n
    · have h := Int.natAbs_ediv_le_natAbs t ((t.natAbs.gcd b : Nat) : Int)
      omega
  · rw [den_of hb]
    exact Nat.lt_of_le_of_lt (Nat.div_le_self _ _) h2
theorem pow_mul_lt {a b m n : Nat} (h1 : a < 2 ^ m) (h2 : b < 2 ^ n) : a * b < 2 ^ (m + n) := by
  rw [Nat.pow_add]
  exact Nat.mul_lt_mul'' h1 h2
theorem den_pos (q : Rat) : 0 < q.den := q.den_pos
theorem mul_abs {i j : Int} {m n : Nat} (h1 : i.natAbs < 2 ^ m) (h2 : j.natAbs < 2 ^ n) : (i * j).natAbs < 2 ^ (m + n) := by
  rw [Int.natAbs_mul]; exact pow_mul_lt h1 h2
theorem add_abs {i j : Int} {m : Nat} (h1 : i.natAbs < 2 ^ m) (h2 : j.natAbs < 2 ^ m) : (i + j).natAbs < 2 ^ (m + 1) := by
  have := Int.natAbs_add_le i j
  rw [Nat.pow_succ]; omega
theorem sub_abs {i j : Int} {m : Nat} (h1 : i.natAbs < 2 ^ m) (h2 : j.natAbs < 2 ^ m) : (i - j).natAbs < 2 ^ (m + 1) := by
  rw [Nat.pow_succ]; omega
theorem den_abs {q : Rat} {n : Nat} (h : Sz n q) : ((q.den : Nat) : Int).natAbs < 2 ^ n := by
  rw [Int.natAbs_natCast]; exact h.2
/-- the sum's top and bottom -/
theorem add_top {x y : Rat} {m n : Nat} (hx : Sz m x) (hy : Sz n y) : (x.num * y.den + y.num * x.den).natAbs < 2 ^ (m + n + 1) := by
  refine add_abs (mul_abs hx.1 (den_abs hy)) ?_
  rw [Nat.add_comm m n]
  exact mul_abs hy.1 (den_abs hx)
theorem sub_top {x y : Rat} {m n : Nat} (hx : Sz m x) (hy : Sz n y) : (x.num * y.den - y.num * x.den).natAbs < 2 ^ (m + n + 1) := by
  refine sub_abs (mul_abs hx.1 (den_abs hy)) ?_
  rw [Nat.add_comm m n]
  exact mul_abs hy.1 (den_abs hx)
theorem den_mul {x y : Rat} {m n : Nat} (hx : Sz m x) (hy : Sz n y) : x.den * y.den < 2 ^ (m + n) := pow_mul_lt hx.2 hy.2
theorem Sz.add {x y : Rat} {m n : Nat} (hx : Sz m x) (hy : Sz n y) : Sz (m + n + 1) (x + y) := by
  rw [Rat.add_def']
  exact Sz.mk (Nat.mul_pos x.den_pos y.den_pos) (add_top hx hy) (Nat.lt_of_lt_of_le (den_mul hx hy) (Nat.pow_le_pow_right (by decide) (by omega)))
theorem Sz.sub {x y : Rat} {m n : Nat} (hx : Sz m x) (hy : Sz n y) : Sz (m + n + 1) (x - y) := by
  rw [Rat.sub_def']
  exact Sz.mk (Nat.mul_pos x.den_pos y.den_pos) (sub_top hx hy) (Nat.lt_of_lt_of_le (den_mul hx hy) (Nat.pow_le_pow_right (by decide) (by omega)))
theorem Sz.mul {x y : Rat} {m n : Nat} (hx : Sz m x) (hy : Sz n y) : Sz (m + n) (x * y) := by
  rw [Rat.mul_def']
  exact Sz.mk (Nat.mul_pos x.den_pos y.den_pos) (mul_abs hx.1 hy.1) (den_mul hx hy)
theorem rat_eq (q : Rat) : q = (q.num : Rat) / ((q.den : Nat) : Rat) := by
  have := Rat.mkRat_self q
  rw [Rat.mkRat_eq_div] at this
  exact this.symm
theorem div_pos_def {x y : Rat} (hy : 0 < y.num) : x / y = mkRat (x.num * y.den) (x.den * y.num).toNat := by
  rw [Rat.mkRat_eq_div]
  have e1 := rat_eq x
  have e2 := rat_eq y
  have h0 : (0 : Int) ≤ x.den * y.num := Int.mul_nonneg (by omega) (by omega)
  have e3 : (((x.den * y.num).toNat : Nat) : Rat) = (x.den : Rat) * (y.num : Rat) := by
    have : (((x.den * y.num).toNat : Nat) : Int) = x.den * y.num := Int.toNat_of_nonneg h0
    calc (((x.den * y.num).toNat : Nat) : Rat) = ((((x.den * y.num).toNat : Nat) : Int) : Rat) := by rw [Rat.intCast_natCast]
      _ = ((x.den * y.num : Int) : Rat) := by rw [this]
      _ = _ := by rw [Rat.intCast_mul, Rat.intCast_natCast]
  rw [e3, Rat.intCast_mul, Rat.intCast_natCast]
  have n1 : ((x.den : Nat) : Rat) ≠ 0 := by
    have := x.den_nz
    intro z
    exact this (Rat.natCast_eq_zero_iff.mp z)
  have n2 : ((y.den : Nat) : Rat) ≠ 0 := by
    have := y.den_nz
    intro z
    exact this (Rat.natCast_eq_zero_iff.mp z)
  have n3 : ((y.num : Int) : Rat) ≠ 0 := by
    intro z
    have := Rat.intCast_eq_zero_iff.mp z
    omega
  generalize (x.num : Rat) = a at *
  generalize (y.num : Rat) = b at *
  generalize ((x.den : Nat) : Rat) = c at *
  generalize ((y.den : Nat) : Rat) = d at *
  rw [e1, e2]
  grind
theorem div_neg_def {x y : Rat} (hy : y.num < 0) : x / y = mkRat (0 - x.num * y.den) (0 - x.den * y.num).toNat := by
  have h := div_pos_def (x := -x) (y := -y) (by rw [Rat.neg_num]; omega)
  rw [Rat.neg_num, Rat.neg_num, Rat.neg_den, Rat.neg_den] at h
  have e : x / y = -x / -y := by grind
  rw [e, h]
  congr 1
  · rw [Int.neg_mul]; omega
  · rw [Int.mul_neg]; congr 1; omega
theorem num_pos_iff {q : Rat} : 0 < q.num ↔ 0 < q := by
  rw [Rat.lt_iff]; simp
theorem num_neg_iff {q : Rat} : q.num < 0 ↔ q < 0 := by
  rw [Rat.lt_iff]; simp
theorem num_zero_iff {q : Rat} : q.num = 0 ↔ q = 0 := Rat.num_eq_zero
theorem Sz.div {x y : Rat} {m n : Nat} (hx : Sz m x) (hy : Sz n y) (h0 : y ≠ 0) : Sz (m + n) (x / y) := by
  have hz : y.num ≠ 0 := fun z => h0 (num_zero_iff.mp z)
  have key : ((x.den : Int) * y.num).natAbs < 2 ^ (m + n) := mul_abs (den_abs hx) hy.1
  have key2 : (x.num * (y.den : Int)).natAbs < 2 ^ (m + n) := mul_abs hx.1 (den_abs hy)
  have hd : (0 : Int) < x.den := by have := x.den_pos; omega
  rcases Int.lt_or_gt_of_ne hz with h | h
  · rw [div_neg_def h]
    have hp : (x.den : Int) * y.num < 0 := Int.mul_neg_of_pos_of_neg hd h
    exact Sz.mk (by omega) (by omega) (by omega)
  · rw [div_pos_def h]
    have hp : 0 < (x.den : Int) * y.num := Int.mul_pos hd h
    exact Sz.mk (by omega) key2 (by omega)
theorem Sz.zero {n : Nat} (h : 0 < n) : Sz n 0 := by
  have h1 : 2 ^ 1 ≤ 2 ^ n := Nat.pow_le_pow_right (by decide) h
  refine ⟨?_, ?_⟩
  · show (0 : Int).natAbs < _
    simp; omega
  · show 1 < _
    omega
theorem Sz.neg {n : Nat} {q : Rat} (h : Sz n q) : Sz n (-q) := by
  refine ⟨?_, ?_⟩
  · rw [Rat.neg_num, Int.natAbs_neg]; exact h.1
  · rw [Rat.neg_den]; exact h.2
end KM
set_option Elab.async false
set_option linter.all false
set_option maxRecDepth 100000
set_option maxHeartbeats 4000000
set_option exponentiation.threshold 20000
namespace KX
open PySem PySem.Spec PyProof.Rows L2
/-! ### the text by places -/
def topS (i : Nat) : Stmt := PySem.Challenge.pw_pagefall_k64_whole_forms_compared.main.body.getD i (.Pass ⟨0, 0, 0, 0⟩)
structure Dn (K : PySem.W.Frag) (mg : Str → Option Value) (name : Str) (st : Stmt) (ps : List Str) where
  f : Addr
  fd : FuncData
  F : Fun K name name st f fd
  b : Binds K fd ps []
  g : mg name = some (.ref f)
structure Cn (mg : Str → Option Value) (name : Str) where
  f : Addr
  g : mg name = some (.ref f)
abbrev s_is_list : Stmt := topS 2
theorem sc_is_list : FnScope ["thing"] ["thing"] (defScope s_is_list) := ⟨rfl, rfl, rfl, by decide +kernel, rfl, by decide +kernel, by decide +kernel⟩
abbrev s_is_whole : Stmt := topS 3
theorem sc_is_whole : FnScope ["thing"] ["thing"] (defScope s_is_whole) := ⟨rfl, rfl, rfl, by decide +kernel, rfl, by decide +kernel, by decide +kernel⟩
abbrev s_lowest : Stmt := topS 4
theorem sc_lowest : FnScope ["top", "bottom", "one", "two"] ["top", "bottom"] (defScope s_lowest) := ⟨rfl, rfl, rfl, by decide +kernel, rfl, by decide +kernel, by decide +kernel⟩
abbrev s_is_frac : Stmt := topS 5
theorem sc_is_frac : FnScope ["thing"] ["thing"] (defScope s_is_frac) := ⟨rfl, rfl, rfl, by decide +kernel, rfl, by decide +kernel, by decide +kernel⟩
abbrev s_frac_of : Stmt := topS 6
theorem sc_frac_of : FnScope ["thing"] ["thing"] (defScope s_frac_of) := ⟨rfl, rfl, rfl, by decide +kernel, rfl, by decide +kernel, by decide +kernel⟩
abbrev s_is_width : Stmt := topS 7
theorem sc_is_width : FnScope ["thing"] ["thing"] (defScope s_is_width) := ⟨rfl, rfl, rfl, by decide +kernel, rfl, by decide +kernel, by decide +kernel⟩
abbrev s_plus : Stmt := topS 8
theorem sc_plus : FnScope ["one", "two"] ["one", "two"] (defScope s_plus) := ⟨rfl, rfl, rfl, by decide +kernel, rfl, by decide +kernel, by decide +kernel⟩
abbrev s_minus : Stmt := topS 9
theorem sc_minus : FnScope ["one", "two"] ["one", "two"] (defScope s_minus) := ⟨rfl, rfl, rfl, by decide +kernel, rfl, by decide +kernel, by decide +kernel⟩
abbrev s_times : Stmt := topS 10
theorem sc_times : FnScope ["one", "two"] ["one", "two"] (defScope s_times) := ⟨rfl, rfl, rfl, by decide +kernel, rfl, by decide +kernel, by decide +kernel⟩
abbrev s_over : Stmt := topS 11
theorem sc_over : FnScope ["one", "two"] ["one", "two"] (defScope s_over) := ⟨rfl, rfl, rfl, by decide +kernel, rfl, by decide +kernel, by decide +kernel⟩
abbrev s_is_less : Stmt := topS 12
theorem sc_is_less : FnScope ["one", "two"] ["one", "two"] (defScope s_is_less) := ⟨rfl, rfl, rfl, by decide +kernel, rfl, by decide +kernel, by decide +kernel⟩
abbrev s_is_upto : Stmt := topS 13
theorem sc_is_upto : FnScope ["one", "two"] ["one", "two"] (defScope s_is_upto) := ⟨rfl, rfl, rfl, by decide +kernel, rfl, by decide +kernel, by decide +kernel⟩
abbrev s_least_of : Stmt := topS 14
theorem sc_least_of : FnScope ["fractions", "found", "one"] ["fractions"] (defScope s_least_of) := ⟨rfl, rfl, rfl, by decide +kernel, rfl, by decide +kernel, by decide +kernel⟩
abbrev s_minus_form : Stmt := topS 21
theorem sc_minus_form : FnScope ["one", "other"] ["one", "other"] (defScope s_minus_form) := ⟨rfl, rfl, rfl, by decide +kernel, rfl, by decide +kernel, by decide +kernel⟩
abbrev s_worth_at : Stmt := topS 22
theorem sc_worth_at : FnScope ["form", "width"] ["form", "width"] (defScope s_worth_at) := ⟨rfl, rfl, rfl, by decide +kernel, rfl, by decide +kernel, by decide +kernel⟩
abbrev s_is_form : Stmt := topS 23
theorem sc_is_form : FnScope ["thing"] ["thing"] (defScope s_is_form) := ⟨rfl, rfl, rfl, by decide +kernel, rfl, by decide +kernel, by decide +kernel⟩
abbrev s_checked_form : Stmt := topS 24
theorem sc_checked_form : FnScope ["thing"] ["thing"] (defScope s_checked_form) := ⟨rfl, rfl, rfl, by decide +kernel, rfl, by decide +kernel, by decide +kernel⟩
abbrev s_is_greater_behind : Stmt := topS 25
theorem sc_is_greater_behind : FnScope ["one", "other", "width", "here", "there"] ["one", "other", "width"] (defScope s_is_greater_behind) := ⟨rfl, rfl, rfl, by decide +kernel, rfl, by decide +kernel, by decide +kernel⟩
abbrev s_next_end : Stmt := topS 26
theorem sc_next_end : FnScope ["forms", "best", "ends", "one"] ["forms", "best"] (defScope s_next_end) := ⟨rfl, rfl, rfl, by decide +kernel, rfl, by decide +kernel, by decide +kernel⟩
abbrev s_outline_of : Stmt := topS 27
theorem sc_outline_of : FnScope ["forms", "found", "low", "is_in", "best", "one", "high"] ["forms"] (defScope s_outline_of) := ⟨rfl, rfl, rfl, by decide +kernel, rfl, by decide +kernel, by decide +kernel⟩
abbrev s_checked_forms : Stmt := topS 28
theorem sc_checked_forms : FnScope ["thing", "found", "index", "one"] ["thing"] (defScope s_checked_forms) := ⟨rfl, rfl, rfl, by decide +kernel, rfl, by decide +kernel, by decide +kernel⟩
abbrev s_greatest_form : Stmt := topS 29
theorem sc_greatest_form : FnScope ["forms"] ["forms"] (defScope s_greatest_form) := ⟨rfl, rfl, rfl, by decide +kernel, rfl, by decide +kernel, by decide +kernel⟩
abbrev s_least_form : Stmt := topS 30
theorem sc_least_form : FnScope ["forms", "turned", "form", "stretch"] ["forms"] (defScope s_least_form) := ⟨rfl, rfl, rfl, by decide +kernel, rfl, by decide +kernel, by decide +kernel⟩
abbrev s_is_stretch : Stmt := topS 33
theorem sc_is_stretch : FnScope ["thing"] ["thing"] (defScope s_is_stretch) := ⟨rfl, rfl, rfl, by decide +kernel, rfl, by decide +kernel, by decide +kernel⟩
abbrev s_upto_zero : Stmt := topS 34
theorem sc_upto_zero : FnScope ["form", "is_below", "root", "found"] ["form", "is_below"] (defScope s_upto_zero) := ⟨rfl, rfl, rfl, by decide +kernel, rfl, by decide +kernel, by decide +kernel⟩
abbrev s_where_upto : Stmt := topS 35
theorem sc_where_upto : FnScope ["one", "other", "first"] ["one", "other"] (defScope s_where_upto) := ⟨rfl, rfl, rfl, by decide +kernel, rfl, by decide +kernel, by decide +kernel⟩
abbrev s_where_below : Stmt := topS 36
theorem sc_where_below : FnScope ["one", "other", "first"] ["one", "other"] (defScope s_where_below) := ⟨rfl, rfl, rfl, by decide +kernel, rfl, by decide +kernel, by decide +kernel⟩
abbrev s_L_source : Stmt := topS 38
theorem sc_L_source : FnScope ["_law_script", "_law_turn", "_law_cell", "_law_mixed_here", "_law_each"] ["_law_script", "_law_turn"] (defScope s_L_source) := ⟨rfl, rfl, rfl, by decide +kernel, rfl, by decide +kernel, by decide +kernel⟩
abbrev s_L_draw : Stmt := topS 39
theorem sc_L_draw : FnScope ["_law_draws", "_law_many", "_law_found"] ["_law_draws", "_law_many"] (defScope s_L_draw) := ⟨rfl, rfl, rfl, by decide +kernel, rfl, by decide +kernel, by decide +kernel⟩
abbrev s_L_pick : Stmt := topS 40
theorem sc_L_pick : FnScope ["_law_draws", "_law_xs"] ["_law_draws", "_law_xs"] (defScope s_L_pick) := ⟨rfl, rfl, rfl, by decide +kernel, rfl, by decide +kernel, by decide +kernel⟩
abbrev s_L_mixed : Stmt := topS 41
theorem sc_L_mixed : FnScope ["_law_draws", "_law_xs", "_law_left", "_law_k"] ["_law_draws", "_law_xs"] (defScope s_L_mixed) := ⟨rfl, rfl, rfl, by decide +kernel, rfl, by decide +kernel, by decide +kernel⟩
abbrev s_L_same : Stmt := topS 42
theorem sc_L_same : FnScope ["_law_found", "_law_due", "_law_left", "_law_right"] ["_law_found", "_law_due"] (defScope s_L_same) := ⟨rfl, rfl, rfl, by decide +kernel, rfl, by decide +kernel, by decide +kernel⟩
abbrev s_L_lowest : Stmt := topS 43
theorem sc_L_lowest : FnScope ["_law_top", "_law_bottom", "_law_one", "_law_other"] ["_law_top", "_law_bottom"] (defScope s_L_lowest) := ⟨rfl, rfl, rfl, by decide +kernel, rfl, by decide +kernel, by decide +kernel⟩
abbrev s_L_plus : Stmt := topS 44
theorem sc_L_plus : FnScope ["_law_one", "_law_other"] ["_law_one", "_law_other"] (defScope s_L_plus) := ⟨rfl, rfl, rfl, by decide +kernel, rfl, by decide +kernel, by decide +kernel⟩
abbrev s_L_times : Stmt := topS 45
theorem sc_L_times : FnScope ["_law_one", "_law_other"] ["_law_one", "_law_other"] (defScope s_L_times) := ⟨rfl, rfl, rfl, by decide +kernel, rfl, by decide +kernel, by decide +kernel⟩
abbrev s_L_less : Stmt := topS 46
theorem sc_L_less : FnScope ["_law_one", "_law_other"] ["_law_one", "_law_other"] (defScope s_L_less) := ⟨rfl, rfl, rfl, by decide +kernel, rfl, by decide +kernel, by decide +kernel⟩
abbrev s_L_loose : Stmt := topS 47
theorem sc_L_loose : FnScope ["_law_draws", "_law_thing", "_law_found", "_law_part"] ["_law_draws", "_law_thing"] (defScope s_L_loose) := ⟨rfl, rfl, rfl, by decide +kernel, rfl, by decide +kernel, by decide +kernel⟩
abbrev s_L_wide : Stmt := topS 48
theorem sc_L_wide : FnScope ["_law_draws", "_law_one", "_law_many"] ["_law_draws", "_law_one"] (defScope s_L_wide) := ⟨rfl, rfl, rfl, by decide +kernel, rfl, by decide +kernel, by decide +kernel⟩
abbrev s_L_some_fraction : Stmt := topS 49
theorem sc_L_some_fraction : FnScope ["_law_draws", "_law_top"] ["_law_draws"] (defScope s_L_some_fraction) := ⟨rfl, rfl, rfl, by decide +kernel, rfl, by decide +kernel, by decide +kernel⟩
abbrev s_L_some_form : Stmt := topS 50
theorem sc_L_some_form : FnScope ["_law_draws", "_law_one", "_law_other"] ["_law_draws"] (defScope s_L_some_form) := ⟨rfl, rfl, rfl, by decide +kernel, rfl, by decide +kernel, by decide +kernel⟩
abbrev s_L_odd_fractions : Stmt := topS 51
theorem sc_L_odd_fractions : FnScope ["_law_found"] [] (defScope s_L_odd_fractions) := ⟨rfl, rfl, rfl, by decide +kernel, rfl, by decide +kernel, by decide +kernel⟩
abbrev s_L_odd_forms : Stmt := topS 52
theorem sc_L_odd_forms : FnScope ["_law_draws", "_law_one", "_law_found", "_law_odd"] ["_law_draws", "_law_one"] (defScope s_L_odd_forms) := ⟨rfl, rfl, rfl, by decide +kernel, rfl, by decide +kernel, by decide +kernel⟩
abbrev s_L_root : Stmt := topS 53
theorem sc_L_root : FnScope ["_law_one", "_law_other", "_law_top", "_law_bottom"] ["_law_one", "_law_other"] (defScope s_L_root) := ⟨rfl, rfl, rfl, by decide +kernel, rfl, by decide +kernel, by decide +kernel⟩
abbrev s_L_upto : Stmt := topS 54
theorem sc_L_upto : FnScope ["_law_one", "_law_other", "_law_root_here"] ["_law_one", "_law_other"] (defScope s_L_upto) := ⟨rfl, rfl, rfl, by decide +kernel, rfl, by decide +kernel, by decide +kernel⟩
abbrev s_L_below : Stmt := topS 55
theorem sc_L_below : FnScope ["_law_one", "_law_other", "_law_root_here"] ["_law_one", "_law_other"] (defScope s_L_below) := ⟨rfl, rfl, rfl, by decide +kernel, rfl, by decide +kernel, by decide +kernel⟩
abbrev s_L_top_stretch : Stmt := topS 56
theorem sc_L_top_stretch : FnScope ["_law_forms", "_law_form", "_law_low", "_law_high", "_law_other", "_law_part"] ["_law_forms", "_law_form"] (defScope s_L_top_stretch) := ⟨rfl, rfl, rfl, by decide +kernel, rfl, by decide +kernel, by decide +kernel⟩
abbrev s_L_envelope : Stmt := topS 57
theorem sc_L_envelope : FnScope ["_law_forms", "_law_found", "_law_start", "_law_best", "_law_form", "_law_ends"] ["_law_forms"] (defScope s_L_envelope) := ⟨rfl, rfl, rfl, by decide +kernel, rfl, by decide +kernel, by decide +kernel⟩
abbrev s_L_few_forms : Stmt := topS 58
theorem sc_L_few_forms : FnScope ["_law_draws", "_law_found", "_law_k", "_law_rise", "_law_point", "_law_worth", "_law_form", "_law_back"] ["_law_draws"] (defScope s_L_few_forms) := ⟨rfl, rfl, rfl, by decide +kernel, rfl, by decide +kernel, by decide +kernel⟩
abbrev s_L_turned : Stmt := topS 59
theorem sc_L_turned : FnScope ["_law_form"] ["_law_form"] (defScope s_L_turned) := ⟨rfl, rfl, rfl, by decide +kernel, rfl, by decide +kernel, by decide +kernel⟩
abbrev s_L_met_forms : Stmt := topS 60
theorem sc_L_met_forms : FnScope ["_law_ask", "e"] ["_law_ask"] (defScope s_L_met_forms) := ⟨rfl, rfl, rfl, by decide +kernel, rfl, by decide +kernel, by decide +kernel⟩
abbrev s_L_refused_right : Stmt := topS 61
theorem sc_L_refused_right : FnScope ["_law_draws", "_law_forms", "_law_one", "_law_at", "_law_odd", "_law_bad", "_law_found"] ["_law_draws", "_law_forms"] (defScope s_L_refused_right) := ⟨rfl, rfl, rfl, by decide +kernel, rfl, by decide +kernel, by decide +kernel⟩
abbrev s_L_handed : Stmt := topS 62
theorem sc_L_handed : FnScope ["_law_draws", "_law_form"] ["_law_draws", "_law_form"] (defScope s_L_handed) := ⟨rfl, rfl, rfl, by decide +kernel, rfl, by decide +kernel, by decide +kernel⟩
abbrev s_L_forty_right : Stmt := topS 63
theorem sc_L_forty_right : FnScope ["_law_draws", "_law_top", "_law_bottom", "_law_forms", "_law_due", "_law_k", "_law_low", "_law_high", "_law_least", "_law_mixed_here", "_law_part", "_law_form"] ["_law_draws"] (defScope s_L_forty_right) := ⟨rfl, rfl, rfl, by decide +kernel, rfl, by decide +kernel, by decide +kernel⟩
abbrev s_L_law : Stmt := topS 64
theorem sc_L_law : FnScope ["_law_script", "_law_turn", "_law_draws", "_law_forms", "_law_one", "_law_other", "_law_found", "_law_least", "_law_handed_here", "_law_part", "_law_form"] ["_law_script"] (defScope s_L_law) := ⟨rfl, rfl, rfl, by decide +kernel, rfl, by decide +kernel, by decide +kernel⟩
structure Txt (K : PySem.W.Frag) (mg : Str → Option Value) where
  is_list : Dn K mg "is_list" s_is_list ["thing"]
  is_whole : Dn K mg "is_whole" s_is_whole ["thing"]
  lowest : Dn K mg "lowest" s_lowest ["top", "bottom"]
  is_frac : Dn K mg "is_frac" s_is_frac ["thing"]
  frac_of : Dn K mg "frac_of" s_frac_of ["thing"]
  is_width : Dn K mg "is_width" s_is_width ["thing"]
  plus : Dn K mg "plus" s_plus ["one", "two"]
  minus : Dn K mg "minus" s_minus ["one", "two"]
  times : Dn K mg "times" s_times ["one", "two"]
  over : Dn K mg "over" s_over ["one", "two"]
  is_less : Dn K mg "is_less" s_is_less ["one", "two"]
  is_upto : Dn K mg "is_upto" s_is_upto ["one", "two"]
  least_of : Dn K mg "least_of" s_least_of ["fractions"]
  minus_form : Dn K mg "minus_form" s_minus_form ["one", "other"]
  worth_at : Dn K mg "worth_at" s_worth_at ["form", "width"]
  is_form : Dn K mg "is_form" s_is_form ["thing"]
  checked_form : Dn K mg "checked_form" s_checked_form ["thing"]
  is_greater_behind : Dn K mg "is_greater_behind" s_is_greater_behind ["one", "other", "width"]
  next_end : Dn K mg "next_end" s_next_end ["forms", "best"]
  outline_of : Dn K mg "outline_of" s_outline_of ["forms"]
  checked_forms : Dn K mg "checked_forms" s_checked_forms ["thing"]
  greatest_form : Dn K mg "greatest_form" s_greatest_form ["forms"]
  least_form : Dn K mg "least_form" s_least_form ["forms"]
  is_stretch : Dn K mg "is_stretch" s_is_stretch ["thing"]
  upto_zero : Dn K mg "upto_zero" s_upto_zero ["form", "is_below"]
  where_upto : Dn K mg "where_upto" s_where_upto ["one", "other"]
  where_below : Dn K mg "where_below" s_where_below ["one", "other"]
  L_source : Dn K mg "_law_source" s_L_source ["_law_script", "_law_turn"]
  L_draw : Dn K mg "_law_draw" s_L_draw ["_law_draws", "_law_many"]
  L_pick : Dn K mg "_law_pick" s_L_pick ["_law_draws", "_law_xs"]
  L_mixed : Dn K mg "_law_mixed" s_L_mixed ["_law_draws", "_law_xs"]
  L_same : Dn K mg "_law_same" s_L_same ["_law_found", "_law_due"]
  L_lowest : Dn K mg "_law_lowest" s_L_lowest ["_law_top", "_law_bottom"]
  L_plus : Dn K mg "_law_plus" s_L_plus ["_law_one", "_law_other"]
  L_times : Dn K mg "_law_times" s_L_times ["_law_one", "_law_other"]
  L_less : Dn K mg "_law_less" s_L_less ["_law_one", "_law_other"]
  L_loose : Dn K mg "_law_loose" s_L_loose ["_law_draws", "_law_thing"]
  L_wide : Dn K mg "_law_wide" s_L_wide ["_law_draws", "_law_one"]
  L_some_fraction : Dn K mg "_law_some_fraction" s_L_some_fraction ["_law_draws"]
  L_some_form : Dn K mg "_law_some_form" s_L_some_form ["_law_draws"]
  L_odd_fractions : Dn K mg "_law_odd_fractions" s_L_odd_fractions []
  L_odd_forms : Dn K mg "_law_odd_forms" s_L_odd_forms ["_law_draws", "_law_one"]
  L_root : Dn K mg "_law_root" s_L_root ["_law_one", "_law_other"]
  L_upto : Dn K mg "_law_upto" s_L_upto ["_law_one", "_law_other"]
  L_below : Dn K mg "_law_below" s_L_below ["_law_one", "_law_other"]
  L_top_stretch : Dn K mg "_law_top_stretch" s_L_top_stretch ["_law_forms", "_law_form"]
  L_envelope : Dn K mg "_law_envelope" s_L_envelope ["_law_forms"]
  L_few_forms : Dn K mg "_law_few_forms" s_L_few_forms ["_law_draws"]
  L_turned : Dn K mg "_law_turned" s_L_turned ["_law_form"]
  L_met_forms : Dn K mg "_law_met_forms" s_L_met_forms ["_law_ask"]
  L_refused_right : Dn K mg "_law_refused_right" s_L_refused_right ["_law_draws", "_law_forms"]
  L_handed : Dn K mg "_law_handed" s_L_handed ["_law_draws", "_law_form"]
  L_forty_right : Dn K mg "_law_forty_right" s_L_forty_right ["_law_draws"]
  L_law : Dn K mg "law" s_L_law ["_law_script"]
  m_isinstance : mg "isinstance" = none
  m_list : mg "list" = none
  m_tuple : mg "tuple" = none
  m_int : mg "int" = none
  m_bool : mg "bool" = none
  m_abs : mg "abs" = none
  m_len : mg "len" = none
  m_enumerate : mg "enumerate" = none
  m_sum : mg "sum" = none
  m_range : mg "range" = none
  m_all : mg "all" = none
  m_zip : mg "zip" = none
  m_min : mg "min" = none
  ZERO : Cn mg "ZERO"
  ALL_WIDTHS : Cn mg "ALL_WIDTHS"
  zero_at : SqT K (fun _ => none) ZERO.f [.int 0, .int 1]
  all_at : ∃ z, SqT K (fun _ => none) ALL_WIDTHS.f [.ref z, .bl true, .non, .bl false] ∧ SqT K (fun _ => none) z [.int 0, .int 1]

/-! ### heaps -/
theorem same_upd {H : Hp} {p : Addr} {o : HO} (h : H p = none) : Same H (upd H p o) := fun b x e => by
  rw [upd_ne (ne_of_none e h)]
  exact e
theorem _root_.L2.Same.sqT {K : PySem.W.Frag} {H H' : Hp} {a : Addr} {xs : List V} (e : Same H H') (h : SqT K H a xs) : SqT K H' a xs := by
  rcases h with (h | ⟨o, h⟩) | h
  · exact .inl (.inl (e _ _ h))
  · exact .inl (.inr ⟨o, e _ _ h⟩)
  · exact .inr h
theorem sqT_none {K : PySem.W.Frag} {H : Hp} {a : Addr} {xs : List V} (h : SqT K (fun _ => none) a xs) : SqT K H a xs := by
  rcases h with (h | ⟨o, h⟩) | h
  · cases h
  · cases h
  · exact .inr h
/-- all tuples stay -/
def Tups (H H' : Hp) : Prop := ∀ b o, H b = some o → (∃ xs, o = .tup xs ∨ ∃ u, o = .frz u (.tup xs)) → H' b = some o
theorem Tups.of {H H' : Hp} (e : Same H H') : Tups H H' := fun b o h _ => e b o h
theorem Tups.refl (H : Hp) : Tups H H := fun _ _ h _ => h
theorem Tups.trans {H H1 H2 : Hp} (a : Tups H H1) (b : Tups H1 H2) : Tups H H2 := fun c o h n => b c o (a c o h n) n
theorem Tups.sqT {K : PySem.W.Frag} {H H' : Hp} {a : Addr} {xs : List V} (e : Tups H H') (h : SqT K H a xs) : SqT K H' a xs := by
  rcases h with (h | ⟨o, h⟩) | h
  · exact .inl (.inl (e _ _ h ⟨xs, .inl rfl⟩))
  · exact .inl (.inr ⟨o, e _ _ h ⟨xs, .inr ⟨o, rfl⟩⟩⟩)
  · exact .inr h
theorem tups_new {H : Hp} {p : Addr} {o : HO} (h : H p = none) : Tups H (upd H p o) := Tups.of (same_upd h)
theorem tups_lst {H : Hp} {p : Addr} {o : HO} {xs : List V} (h : H p = some (.lst xs)) : Tups H (upd H p o) := fun b u e ⟨ys, k⟩ => by
  have nb : b ≠ p := fun z => by
    rw [z, h] at e
    cases e
    rcases k with k | ⟨_, k⟩ <;> cases k
  rw [upd_ne nb]
  exact e
theorem sz2 : 2 ≤ sizeLine := by decide
theorem sz4 : 4 ≤ sizeLine := by decide
/-! ### fractions -/
def frV (q : Rat) : List V := [.int q.num, .int (q.den : Nat)]
/-- v is the fraction q, in lowest terms -/
def Fr (K : PySem.W.Frag) (H : Hp) (v : V) (q : Rat) : Prop := ∃ p, v = .ref p ∧ SqT K H p (frV q)
theorem Fr.keep {K : PySem.W.Frag} {H H' : Hp} {v : V} {q : Rat} (e : Tups H H') (h : Fr K H v q) : Fr K H' v q := by
  obtain ⟨p, rfl, h⟩ := h
  exact ⟨p, rfl, e.sqT h⟩
theorem Fr.new {K : PySem.W.Frag} {H : Hp} {p : Addr} {q : Rat} : Fr K (upd H p (.tup (frV q))) (.ref p) q := ⟨p, rfl, .inl (.inl upd_same)⟩
/-- v is the form f -/
def FmV (K : PySem.W.Frag) (H : Hp) (v : V) (f : Rat × Rat) : Prop := ∃ p a b, v = .ref p ∧ SqT K H p [a, b] ∧ Fr K H a f.1 ∧ Fr K H b f.2
theorem FmV.keep {K : PySem.W.Frag} {H H' : Hp} {v : V} {q : Rat × Rat} (e : Tups H H') (h : FmV K H v q) : FmV K H' v q := by
  obtain ⟨p, a, b, rfl, h, h1, h2⟩ := h
  exact ⟨p, a, b, rfl, e.sqT h, h1.keep e, h2.keep e⟩
theorem atI2_0 {x y : V} : atI [x, y] 0 = some x := rfl
theorem atI2_1 {x y : V} : atI [x, y] 1 = some y := rfl
section
variable {P : Program} {w : World} {K : PySem.W.Frag} {mg : Str → Option Value} {base : Heap}
/-! ### lowest, plus, minus, times, over, is_less, is_upto -/
def spLowest : Sp := fun vs H Q _ => ∃ (t b : Int), vs = [.int t, .int b] ∧ 0 < b ∧ t.natAbs < 2 ^ 8500 ∧ b.natAbs < 2 ^ 8500 ∧
  ∀ p, H p = none → Q (.ref p) (upd H p (.tup (frV (mkRat t b.toNat))))
theorem ok_lowest (T : Txt K mg) : FnOk P w K mg base CX0 1 T.lowest.f T.lowest.fd ["top", "bottom"] spLowest := by
  refine T.lowest.F.ok sc_lowest (fun vs H Q E h => ?_) (fun cdv A outer s H vs Q E hr h => ?_)
  · obtain ⟨t, b, rfl, _⟩ := h
    rfl
  · obtain ⟨t, b, rfl, hb, ht, hb2, k⟩ := h
    refine ⟨_, (pss_cons (ps_par (i := 2) (j := 3) (by rfl) sc_lowest.nd rfl rfl (by decide) rfl rfl (pa_cons (pe_callB call_abs (by rfl) T.m_abs (by decide +kernel) (pa_cons (pv 0) pa_nil)) (pa_cons (pv 1) pa_nil)) (by rfl))
      (pss_cons (ps_while PassesOwn.never (pt_cmpR op_gt (pv 3) pe_int (nomark _)) (pss_one (ps_par (i := 2) (j := 3) (by rfl) sc_lowest.nd rfl rfl (by decide) rfl rfl (pa_cons (pv 3) (pa_cons (pe_op op_mod (pv 2) (pv 3)) pa_nil)) (by rfl))))
      (pss_one (ps_ret (pe_tup (pa_cons (pe_op op_fdivW (pv 0) (pv 2)) (pa_cons (pe_op op_fdivW (pv 1) (pv 2)) pa_nil))))))), ?_⟩
    refine ⟨_, rfl, _, rfl, _, rfl, _, _, rfl, ?_⟩
    refine ⟨fun m σ H' => ∃ x y : Nat, σ = [some (.int t), some (.int b), some (.int x), some (.int y)] ∧ y = m ∧ Nat.gcd x y = t.natAbs.gcd b.natAbs ∧ H' = H, ⟨b.natAbs, t.natAbs, b.natAbs, ?_, rfl, rfl, rfl⟩, ?_⟩
    · have e1 : (if t < 0 then -t else t) = ((t.natAbs : Nat) : Int) := by split <;> omega
      have e2 : b = ((b.natAbs : Nat) : Int) := by omega
      rw [e1]
      exact congrArg (fun z => [some (V.int t), some (V.int b), some (V.int ((t.natAbs : Nat) : Int)), some (V.int z)]) e2
    · rintro m σ H' ⟨x, y, rfl, rfl, hg, rfl⟩
      refine ⟨_, rfl, _, _, rfl, rfl, _, rfl, ?_⟩
      refine ite2 (fun hc => ?_) (fun hc => ?_)
      · have hy : 0 < (y : Int) := of_decide_eq_true hc
        refine ⟨fun σ' H'' => ∃ x' y' : Nat, σ' = [some (.int t), some (.int b), some (.int x'), some (.int y')] ∧ y' < y ∧ Nat.gcd x' y' = t.natAbs.gcd b.natAbs ∧ H'' = H', fun σ' H'' ⟨x', y', e, l, g, eH⟩ => ⟨y', l, x', y', e, rfl, g, eH⟩, ?_⟩
        refine ⟨_, rfl, _, rfl, _, rfl, _, _, rfl, rfl, hy, _, _, rfl, y, x % y, ?_, Nat.mod_lt _ (by omega), ?_, rfl⟩
        · have e : (x : Int) % (y : Int) = ((x % y : Nat) : Int) := (Int.natCast_emod x y).symm
          show [some (V.int t), some (V.int b), some (V.int y), some (V.int ((x : Int) % (y : Int)))] = _
          rw [e]
        · rw [← hg, Nat.gcd_comm y, ← Nat.gcd_rec, Nat.gcd_comm]
      · have hy : y = 0 := by
          have q : ¬ 0 < (y : Int) := fun z => hc (decide_eq_true z)
          omega
        subst hy
        rw [Nat.gcd_zero_right] at hg
        have hx : 0 < x := by
          rw [hg]
          exact Nat.gcd_pos_of_pos_right _ (by omega)
        have hxb : x ≤ b.natAbs := by
          rw [hg]
          exact Nat.gcd_le_right _ (by omega)
        have cd : ∀ i : Int, CDivW i x := fun i => wide_div (b := 8500) (by omega) (by rw [Int.natAbs_natCast]; omega) (by decide) (by decide)
        refine ⟨_, rfl, _, rfl, _, _, rfl, rfl, cd _, _, rfl, _, rfl, _, _, rfl, rfl, cd _, sz2, fun p hp => ?_⟩
        have e : ([V.int (t / (x : Int)), V.int (b / (x : Int))] : List V) = frV (mkRat t b.toNat) := by
          have hbn : 0 < b.toNat := by omega
          have eb : b.natAbs = b.toNat := by omega
          unfold frV
          rw [KM.num_of hbn, KM.den_of hbn, ← eb, ← hg]
          have : b / (x : Int) = ((b.natAbs / x : Nat) : Int) := by
            rw [Int.natCast_ediv]
            congr 1
            omega
          rw [this]
        rw [e]
        exact k p hp
theorem cm_nd {x y : Rat} (hx : KM.Sz 4000 x) (hy : KM.Sz 4000 y) : CMulW x.num (y.den : Nat) := wide_mul hx.1 (KM.den_abs hy) (by decide) (by decide) (by decide)
theorem cm_nn {x y : Rat} (hx : KM.Sz 4000 x) (hy : KM.Sz 4000 y) : CMulW x.num y.num := wide_mul hx.1 hy.1 (by decide) (by decide) (by decide)
theorem cm_dn {x y : Rat} (hx : KM.Sz 4000 x) (hy : KM.Sz 4000 y) : CMulW (x.den : Nat) y.num := wide_mul (KM.den_abs hx) hy.1 (by decide) (by decide) (by decide)
theorem cm_dd {x y : Rat} (hx : KM.Sz 4000 x) (hy : KM.Sz 4000 y) : CMulW (x.den : Nat) (y.den : Nat) := wide_mul (KM.den_abs hx) (KM.den_abs hy) (by decide) (by decide) (by decide)
theorem pw_le {a : Nat} (h : a < 2 ^ 8001) : a < 2 ^ 8500 := Nat.lt_of_lt_of_le h (Nat.pow_le_pow_right (by decide) (by decide))
theorem pw_le0 {a : Nat} (h : a < 2 ^ 8000) : a < 2 ^ 8500 := Nat.lt_of_lt_of_le h (Nat.pow_le_pow_right (by decide) (by decide))
end
/-- the plain answers of a reading, as far as they go -/
local macro_rules | `(tactic| walk_at "rd") => `(tactic| repeat (first | refine ⟨_, rfl, ?_⟩ | refine ⟨_, _, _, _, rfl, rfl, (by assumption), rfl, ?_⟩ | refine ⟨_, _, rfl, rfl, ?_⟩ | refine ⟨(by first | exact cm_nd (by assumption) (by assumption) | exact cm_nn (by assumption) (by assumption) | exact cm_dn (by assumption) (by assumption) | exact cm_dd (by assumption) (by assumption)), ?_⟩))
section
variable {P : Program} {w : World} {K : PySem.W.Frag} {mg : Str → Option Value} {base : Heap}
def spBin (K : PySem.W.Frag) (g : Rat → Rat → Rat) : Sp := fun vs H Q _ => ∃ (a b : V) (x y : Rat), vs = [a, b] ∧ Fr K H a x ∧ Fr K H b y ∧ KM.Sz 4000 x ∧ KM.Sz 4000 y ∧
  ∀ p, H p = none → Q (.ref p) (upd H p (.tup (frV (g x y))))
theorem den_pos2 (x y : Rat) : (0 : Int) < ((x.den : Nat) : Int) * ((y.den : Nat) : Int) := Int.mul_pos (Int.natCast_pos.mpr x.den_pos) (Int.natCast_pos.mpr y.den_pos)
theorem den_lt2 {x y : Rat} (sx : KM.Sz 4000 x) (sy : KM.Sz 4000 y) : (((x.den : Nat) : Int) * ((y.den : Nat) : Int)).natAbs < 2 ^ 8500 := by
  rw [← Int.natCast_mul, Int.natAbs_natCast]
  exact pw_le0 (KM.den_mul sx sy)
theorem num_lt2 {x y : Rat} (sx : KM.Sz 4000 x) (sy : KM.Sz 4000 y) : (x.num * y.num).natAbs < 2 ^ 8001 := Nat.lt_of_lt_of_le (KM.mul_abs sx.1 sy.1) (Nat.pow_le_pow_right (by decide) (by decide))
theorem ok_plus (T : Txt K mg) : FnOk P w K mg base CX0 2 T.plus.f T.plus.fd ["one", "two"] (spBin K (fun x y => x + y)) := by
  refine T.plus.F.ok sc_plus (fun vs H Q E h => ?_) (fun cdv A outer s H vs Q E hr h => ?_)
  · obtain ⟨a, b, x, y, rfl, _⟩ := h
    rfl
  · obtain ⟨_, _, x, y, rfl, ⟨p, rfl, hp⟩, ⟨q, rfl, hq⟩, sx, sy, k⟩ := h
    refine ⟨_, (pss_one (ps_ret (pe_call (ok_lowest T) (hr.mono (by decide)) (by rfl) T.lowest.g T.lowest.F.kp T.lowest.b .nil pass0 (pa_cons (pe_op op_add (pe_op op_mulW (pe_ix ix_tup (pv 0) pe_int (fun _ _ => rfl)) (pe_ix ix_tup (pv 1) pe_int (fun _ _ => rfl))) (pe_op op_mulW (pe_ix ix_tup (pv 1) pe_int (fun _ _ => rfl)) (pe_ix ix_tup (pv 0) pe_int (fun _ _ => rfl)))) (pa_cons (pe_op op_mulW (pe_ix ix_tup (pv 0) pe_int (fun _ _ => rfl)) (pe_ix ix_tup (pv 1) pe_int (fun _ _ => rfl))) pa_nil))))), ?_⟩
    walk_at "rd"
    refine ⟨_, _, rfl, den_pos2 x y, pw_le (KM.add_top sx sy), den_lt2 sx sy, fun r hr => ?_⟩
    have e : Q (V.ref r) (upd H r (HO.tup (frV (x + y)))) := k r hr
    rw [Rat.add_def'] at e
    exact e
theorem ok_minus (T : Txt K mg) : FnOk P w K mg base CX0 2 T.minus.f T.minus.fd ["one", "two"] (spBin K (fun x y => x - y)) := by
  refine T.minus.F.ok sc_minus (fun vs H Q E h => ?_) (fun cdv A outer s H vs Q E hr h => ?_)
  · obtain ⟨a, b, x, y, rfl, _⟩ := h
    rfl
  · obtain ⟨_, _, x, y, rfl, ⟨p, rfl, hp⟩, ⟨q, rfl, hq⟩, sx, sy, k⟩ := h
    refine ⟨_, (pss_one (ps_ret (pe_call (ok_lowest T) (hr.mono (by decide)) (by rfl) T.lowest.g T.lowest.F.kp T.lowest.b .nil pass0 (pa_cons (pe_op op_sub (pe_op op_mulW (pe_ix ix_tup (pv 0) pe_int (fun _ _ => rfl)) (pe_ix ix_tup (pv 1) pe_int (fun _ _ => rfl))) (pe_op op_mulW (pe_ix ix_tup (pv 1) pe_int (fun _ _ => rfl)) (pe_ix ix_tup (pv 0) pe_int (fun _ _ => rfl)))) (pa_cons (pe_op op_mulW (pe_ix ix_tup (pv 0) pe_int (fun _ _ => rfl)) (pe_ix ix_tup (pv 1) pe_int (fun _ _ => rfl))) pa_nil))))), ?_⟩
    walk_at "rd"
    refine ⟨_, _, rfl, den_pos2 x y, pw_le (KM.sub_top sx sy), den_lt2 sx sy, fun r hr => ?_⟩
    have e : Q (V.ref r) (upd H r (HO.tup (frV (x - y)))) := k r hr
    rw [Rat.sub_def'] at e
    exact e
theorem ok_times (T : Txt K mg) : FnOk P w K mg base CX0 2 T.times.f T.times.fd ["one", "two"] (spBin K (fun x y => x * y)) := by
  refine T.times.F.ok sc_times (fun vs H Q E h => ?_) (fun cdv A outer s H vs Q E hr h => ?_)
  · obtain ⟨a, b, x, y, rfl, _⟩ := h
    rfl
  · obtain ⟨_, _, x, y, rfl, ⟨p, rfl, hp⟩, ⟨q, rfl, hq⟩, sx, sy, k⟩ := h
    refine ⟨_, (pss_one (ps_ret (pe_call (ok_lowest T) (hr.mono (by decide)) (by rfl) T.lowest.g T.lowest.F.kp T.lowest.b .nil pass0 (pa_cons (pe_op op_mulW (pe_ix ix_tup (pv 0) pe_int (fun _ _ => rfl)) (pe_ix ix_tup (pv 1) pe_int (fun _ _ => rfl))) (pa_cons (pe_op op_mulW (pe_ix ix_tup (pv 0) pe_int (fun _ _ => rfl)) (pe_ix ix_tup (pv 1) pe_int (fun _ _ => rfl))) pa_nil))))), ?_⟩
    walk_at "rd"
    refine ⟨_, _, rfl, den_pos2 x y, pw_le (num_lt2 sx sy), den_lt2 sx sy, fun r hr => ?_⟩
    have e : Q (V.ref r) (upd H r (HO.tup (frV (x * y)))) := k r hr
    rw [Rat.mul_def'] at e
    exact e
theorem ov_key {x y : Rat} (sx : KM.Sz 4000 x) (sy : KM.Sz 4000 y) : (((x.den : Nat) : Int) * y.num).natAbs < 2 ^ 8500 := pw_le0 (KM.mul_abs (KM.den_abs sx) sy.1)
theorem ov_key2 {x y : Rat} (sx : KM.Sz 4000 x) (sy : KM.Sz 4000 y) : (x.num * ((y.den : Nat) : Int)).natAbs < 2 ^ 8500 := pw_le0 (KM.mul_abs sx.1 (KM.den_abs sy))
def spOver (K : PySem.W.Frag) : Sp := fun vs H Q _ => ∃ (a b : V) (x y : Rat), vs = [a, b] ∧ Fr K H a x ∧ Fr K H b y ∧ KM.Sz 4000 x ∧ KM.Sz 4000 y ∧ y ≠ 0 ∧
  ∀ p, H p = none → Q (.ref p) (upd H p (.tup (frV (x / y))))
theorem ok_over (T : Txt K mg) : FnOk P w K mg base CX0 2 T.over.f T.over.fd ["one", "two"] (spOver K) := by
  refine T.over.F.ok sc_over (fun vs H Q E h => ?_) (fun cdv A outer s H vs Q E hr h => ?_)
  · obtain ⟨a, b, x, y, rfl, _⟩ := h
    rfl
  · obtain ⟨_, _, x, y, rfl, ⟨p, rfl, hp⟩, ⟨q, rfl, hq⟩, sx, sy, hy, k⟩ := h
    refine ⟨_, (pss_cons (ps_if (pt_cmpR op_lt (pe_ix ix_tup (pv 1) pe_int (fun _ _ => rfl)) pe_int (nomark _)) (pss_one (ps_ret (pe_call (ok_lowest T) (hr.mono (by decide)) (by rfl) T.lowest.g T.lowest.F.kp T.lowest.b .nil pass0 (pa_cons (pe_op op_sub pe_int (pe_op op_mulW (pe_ix ix_tup (pv 0) pe_int (fun _ _ => rfl)) (pe_ix ix_tup (pv 1) pe_int (fun _ _ => rfl)))) (pa_cons (pe_op op_sub pe_int (pe_op op_mulW (pe_ix ix_tup (pv 0) pe_int (fun _ _ => rfl)) (pe_ix ix_tup (pv 1) pe_int (fun _ _ => rfl)))) pa_nil))))) pss_nil)
      (pss_one (ps_ret (pe_call (ok_lowest T) (hr.mono (by decide)) (by rfl) T.lowest.g T.lowest.F.kp T.lowest.b .nil pass0 (pa_cons (pe_op op_mulW (pe_ix ix_tup (pv 0) pe_int (fun _ _ => rfl)) (pe_ix ix_tup (pv 1) pe_int (fun _ _ => rfl))) (pa_cons (pe_op op_mulW (pe_ix ix_tup (pv 0) pe_int (fun _ _ => rfl)) (pe_ix ix_tup (pv 1) pe_int (fun _ _ => rfl))) pa_nil)))))), ?_⟩
    have hd : (0 : Int) < ((x.den : Nat) : Int) := Int.natCast_pos.mpr x.den_pos
    walk_at "rd"
    refine ite2 (fun hc => ?_) (fun hc => ?_)
    · have hn : y.num < 0 := of_decide_eq_true hc
      have hz : ((x.den : Nat) : Int) * y.num < 0 := Int.mul_neg_of_pos_of_neg hd hn
      have k1 := ov_key sx sy
      have k2 := ov_key2 sx sy
      walk_at "rd"
      refine ⟨_, _, rfl, (by show 0 < 0 - ((x.den : Nat) : Int) * y.num; omega), (by show (0 - x.num * ((y.den : Nat) : Int)).natAbs < _; rw [Int.zero_sub, Int.natAbs_neg]; exact k2), (by show (0 - ((x.den : Nat) : Int) * y.num).natAbs < _; rw [Int.zero_sub, Int.natAbs_neg]; exact k1), fun r hr => ?_⟩
      have e : Q (V.ref r) (upd H r (HO.tup (frV (x / y)))) := k r hr
      rw [KM.div_neg_def hn] at e
      exact e
    · have hn0 : ¬ y.num < 0 := fun z => hc (decide_eq_true z)
      have hn : 0 < y.num := by
        have : y.num ≠ 0 := fun z => hy (KM.num_zero_iff.mp z)
        omega
      walk_at "rd"
      refine ⟨_, _, rfl, Int.mul_pos hd hn, ov_key2 sx sy, ov_key sx sy, fun r hr => ?_⟩
      have e : Q (V.ref r) (upd H r (HO.tup (frV (x / y)))) := k r hr
      rw [KM.div_pos_def hn] at e
      exact e
def spCmp (K : PySem.W.Frag) (g : Rat → Rat → Bool) : Sp := fun vs H Q _ => ∃ (a b : V) (x y : Rat), vs = [a, b] ∧ Fr K H a x ∧ Fr K H b y ∧ KM.Sz 4000 x ∧ KM.Sz 4000 y ∧ Q (.bl (g x y)) H
theorem lt_eq (x y : Rat) : decide (x.num * (y.den : Int) < y.num * (x.den : Int)) = decide (x < y) := by
  rw [decide_eq_decide]
  exact (Rat.lt_iff x y).symm
theorem le_eq (x y : Rat) : decide (x.num * (y.den : Int) ≤ y.num * (x.den : Int)) = decide (x ≤ y) := by
  rw [decide_eq_decide]
  exact (Rat.le_iff x y).symm
theorem ok_is_less (T : Txt K mg) : FnOk P w K mg base CX0 1 T.is_less.f T.is_less.fd ["one", "two"] (spCmp K (fun x y => decide (x < y))) := by
  refine T.is_less.F.ok sc_is_less (fun vs H Q E h => ?_) (fun cdv A outer s H vs Q E hr h => ?_)
  · obtain ⟨a, b, x, y, rfl, _⟩ := h
    rfl
  · obtain ⟨_, _, x, y, rfl, ⟨p, rfl, hp⟩, ⟨q, rfl, hq⟩, sx, sy, k⟩ := h
    refine ⟨_, (pss_one (ps_ret (pe_cmpR op_lt (pe_op op_mulW (pe_ix ix_tup (pv 0) pe_int (fun _ _ => rfl)) (pe_ix ix_tup (pv 1) pe_int (fun _ _ => rfl))) (pe_op op_mulW (pe_ix ix_tup (pv 1) pe_int (fun _ _ => rfl)) (pe_ix ix_tup (pv 0) pe_int (fun _ _ => rfl))) (nomark _)))), ?_⟩
    walk_at "rd"
    have e : Q (V.bl (decide (x < y))) H := k
    rw [← lt_eq] at e
    exact e
theorem ok_is_upto (T : Txt K mg) : FnOk P w K mg base CX0 1 T.is_upto.f T.is_upto.fd ["one", "two"] (spCmp K (fun x y => decide (x ≤ y))) := by
  refine T.is_upto.F.ok sc_is_upto (fun vs H Q E h => ?_) (fun cdv A outer s H vs Q E hr h => ?_)
  · obtain ⟨a, b, x, y, rfl, _⟩ := h
    rfl
  · obtain ⟨_, _, x, y, rfl, ⟨p, rfl, hp⟩, ⟨q, rfl, hq⟩, sx, sy, k⟩ := h
    refine ⟨_, (pss_one (ps_ret (pe_cmpR op_le (pe_op op_mulW (pe_ix ix_tup (pv 0) pe_int (fun _ _ => rfl)) (pe_ix ix_tup (pv 1) pe_int (fun _ _ => rfl))) (pe_op op_mulW (pe_ix ix_tup (pv 1) pe_int (fun _ _ => rfl)) (pe_ix ix_tup (pv 0) pe_int (fun _ _ => rfl))) (nomark _)))), ?_⟩
    walk_at "rd"
    have e : Q (V.bl (decide (x ≤ y))) H := k
    rw [← le_eq] at e
    exact e
theorem ok_L_lowest (T : Txt K mg) : FnOk P w K mg base CX0 1 T.L_lowest.f T.L_lowest.fd ["_law_top", "_law_bottom"] spLowest := by
  refine T.L_lowest.F.ok sc_L_lowest (fun vs H Q E h => ?_) (fun cdv A outer s H vs Q E hr h => ?_)
  · obtain ⟨t, b, rfl, _⟩ := h
    rfl
  · obtain ⟨t, b, rfl, hb, ht, hb2, k⟩ := h
    refine ⟨_, (pss_cons (ps_par (i := 2) (j := 3) (by rfl) sc_L_lowest.nd rfl rfl (by decide) rfl rfl (pa_cons (pe_callB call_abs (by rfl) T.m_abs (by decide +kernel) (pa_cons (pv 0) pa_nil)) (pa_cons (pv 1) pa_nil)) (by rfl))
      (pss_cons (ps_while PassesOwn.never (pt_cmpR op_gt (pv 3) pe_int (nomark _)) (pss_one (ps_par (i := 2) (j := 3) (by rfl) sc_L_lowest.nd rfl rfl (by decide) rfl rfl (pa_cons (pv 3) (pa_cons (pe_op op_mod (pe_callTy call_int1 (by rfl) T.m_int (by decide +kernel) (pa_cons (pv 2) pa_nil)) (pv 3)) pa_nil)) (by rfl))))
      (pss_one (ps_ret (pe_tup (pa_cons (pe_op op_fdivW (pv 0) (pv 2)) (pa_cons (pe_op op_fdivW (pv 1) (pv 2)) pa_nil))))))), ?_⟩
    refine ⟨_, rfl, _, rfl, _, rfl, _, _, rfl, ?_⟩
    refine ⟨fun m σ H' => ∃ x y : Nat, σ = [some (.int t), some (.int b), some (.int x), some (.int y)] ∧ y = m ∧ Nat.gcd x y = t.natAbs.gcd b.natAbs ∧ H' = H, ⟨b.natAbs, t.natAbs, b.natAbs, ?_, rfl, rfl, rfl⟩, ?_⟩
    · have e1 : (if t < 0 then -t else t) = ((t.natAbs : Nat) : Int) := by split <;> omega
      have e2 : b = ((b.natAbs : Nat) : Int) := by omega
      rw [e1]
      exact congrArg (fun z => [some (V.int t), some (V.int b), some (V.int ((t.natAbs : Nat) : Int)), some (V.int z)]) e2
    · rintro m σ H' ⟨x, y, rfl, rfl, hg, rfl⟩
      refine ⟨_, rfl, _, _, rfl, rfl, _, rfl, ?_⟩
      refine ite2 (fun hc => ?_) (fun hc => ?_)
      · have hy : 0 < (y : Int) := of_decide_eq_true hc
        refine ⟨fun σ' H'' => ∃ x' y' : Nat, σ' = [some (.int t), some (.int b), some (.int x'), some (.int y')] ∧ y' < y ∧ Nat.gcd x' y' = t.natAbs.gcd b.natAbs ∧ H'' = H', fun σ' H'' ⟨x', y', e, l, g, eH⟩ => ⟨y', l, x', y', e, rfl, g, eH⟩, ?_⟩
        refine ⟨_, rfl, _, rfl, .inl ⟨_, rfl, _, rfl, _, _, rfl, rfl, hy, _, _, rfl, y, x % y, ?_, Nat.mod_lt _ (by omega), ?_, rfl⟩⟩
        · have e : (x : Int) % (y : Int) = ((x % y : Nat) : Int) := (Int.natCast_emod x y).symm
          show [some (V.int t), some (V.int b), some (V.int y), some (V.int ((x : Int) % (y : Int)))] = _
          rw [e]
        · rw [← hg, Nat.gcd_comm y, ← Nat.gcd_rec, Nat.gcd_comm]
      · have hy : y = 0 := by
          have q : ¬ 0 < (y : Int) := fun z => hc (decide_eq_true z)
          omega
        subst hy
        rw [Nat.gcd_zero_right] at hg
        have hx : 0 < x := by
          rw [hg]
          exact Nat.gcd_pos_of_pos_right _ (by omega)
        have hxb : x ≤ b.natAbs := by
          rw [hg]
          exact Nat.gcd_le_right _ (by omega)
        have cd : ∀ i : Int, CDivW i x := fun i => wide_div (b := 8500) (by omega) (by rw [Int.natAbs_natCast]; omega) (by decide) (by decide)
        refine ⟨_, rfl, _, rfl, _, _, rfl, rfl, cd _, _, rfl, _, rfl, _, _, rfl, rfl, cd _, sz2, fun p hp => ?_⟩
        have e : ([V.int (t / (x : Int)), V.int (b / (x : Int))] : List V) = frV (mkRat t b.toNat) := by
          have hbn : 0 < b.toNat := by omega
          have eb : b.natAbs = b.toNat := by omega
          unfold frV
          rw [KM.num_of hbn, KM.den_of hbn, ← eb, ← hg]
          have : b / (x : Int) = ((b.natAbs / x : Nat) : Int) := by
            rw [Int.natCast_ediv]
            congr 1
            omega
          rw [this]
        rw [e]
        exact k p hp
theorem ok_L_plus (T : Txt K mg) : FnOk P w K mg base CX0 2 T.L_plus.f T.L_plus.fd ["_law_one", "_law_other"] (spBin K (fun x y => x + y)) := by
  refine T.L_plus.F.ok sc_L_plus (fun vs H Q E h => ?_) (fun cdv A outer s H vs Q E hr h => ?_)
  · obtain ⟨a, b, x, y, rfl, _⟩ := h
    rfl
  · obtain ⟨_, _, x, y, rfl, ⟨p, rfl, hp⟩, ⟨q, rfl, hq⟩, sx, sy, k⟩ := h
    refine ⟨_, (pss_one (ps_ret (pe_call (ok_L_lowest T) (hr.mono (by decide)) (by rfl) T.L_lowest.g T.L_lowest.F.kp T.L_lowest.b .nil pass0 (pa_cons (pe_op op_add (pe_op op_mulW (pe_ix ix_tup (pv 0) pe_int (fun _ _ => rfl)) (pe_ix ix_tup (pv 1) pe_int (fun _ _ => rfl))) (pe_op op_mulW (pe_ix ix_tup (pv 1) pe_int (fun _ _ => rfl)) (pe_ix ix_tup (pv 0) pe_int (fun _ _ => rfl)))) (pa_cons (pe_op op_mulW (pe_ix ix_tup (pv 0) pe_int (fun _ _ => rfl)) (pe_ix ix_tup (pv 1) pe_int (fun _ _ => rfl))) pa_nil))))), ?_⟩
    walk_at "rd"
    refine ⟨_, _, rfl, den_pos2 x y, pw_le (KM.add_top sx sy), den_lt2 sx sy, fun r hr => ?_⟩
    have e : Q (V.ref r) (upd H r (HO.tup (frV (x + y)))) := k r hr
    rw [Rat.add_def'] at e
    exact e
theorem ok_L_times (T : Txt K mg) : FnOk P w K mg base CX0 2 T.L_times.f T.L_times.fd ["_law_one", "_law_other"] (spBin K (fun x y => x * y)) := by
  refine T.L_times.F.ok sc_L_times (fun vs H Q E h => ?_) (fun cdv A outer s H vs Q E hr h => ?_)
  · obtain ⟨a, b, x, y, rfl, _⟩ := h
    rfl
  · obtain ⟨_, _, x, y, rfl, ⟨p, rfl, hp⟩, ⟨q, rfl, hq⟩, sx, sy, k⟩ := h
    refine ⟨_, (pss_one (ps_ret (pe_call (ok_L_lowest T) (hr.mono (by decide)) (by rfl) T.L_lowest.g T.L_lowest.F.kp T.L_lowest.b .nil pass0 (pa_cons (pe_op op_mulW (pe_ix ix_tup (pv 0) pe_int (fun _ _ => rfl)) (pe_ix ix_tup (pv 1) pe_int (fun _ _ => rfl))) (pa_cons (pe_op op_mulW (pe_ix ix_tup (pv 0) pe_int (fun _ _ => rfl)) (pe_ix ix_tup (pv 1) pe_int (fun _ _ => rfl))) pa_nil))))), ?_⟩
    walk_at "rd"
    refine ⟨_, _, rfl, den_pos2 x y, pw_le (num_lt2 sx sy), den_lt2 sx sy, fun r hr => ?_⟩
    have e : Q (V.ref r) (upd H r (HO.tup (frV (x * y)))) := k r hr
    rw [Rat.mul_def'] at e
    exact e
theorem ok_L_less (T : Txt K mg) : FnOk P w K mg base CX0 1 T.L_less.f T.L_less.fd ["_law_one", "_law_other"] (spCmp K (fun x y => decide (x < y))) := by
  refine T.L_less.F.ok sc_L_less (fun vs H Q E h => ?_) (fun cdv A outer s H vs Q E hr h => ?_)
  · obtain ⟨a, b, x, y, rfl, _⟩ := h
    rfl
  · obtain ⟨_, _, x, y, rfl, ⟨p, rfl, hp⟩, ⟨q, rfl, hq⟩, sx, sy, k⟩ := h
    refine ⟨_, (pss_one (ps_ret (pe_cmpR op_lt (pe_op op_mulW (pe_ix ix_tup (pv 0) pe_int (fun _ _ => rfl)) (pe_ix ix_tup (pv 1) pe_int (fun _ _ => rfl))) (pe_op op_mulW (pe_ix ix_tup (pv 1) pe_int (fun _ _ => rfl)) (pe_ix ix_tup (pv 0) pe_int (fun _ _ => rfl))) (nomark _)))), ?_⟩
    walk_at "rd"
    have e : Q (V.bl (decide (x < y))) H := k
    rw [← lt_eq] at e
    exact e
end
end KX
set_option Elab.async false
set_option linter.all false
set_option maxRecDepth 100000
set_option maxHeartbeats 4000000
set_option exponentiation.threshold 20000
namespace KX
open PySem PySem.Spec PyProof.Rows L2
theorem pe_cn {X : Cx} {x : Str} {f : Addr} {pos : Pos} (hg : Gl X x) (hm : X.mg x = some (.ref f)) (hd : (x == ("__debug__" : Str)) = false := by decide) : PE X (.Name x pos) (tC (.ref f)) := pe_glob hg hm rfl (hd := hd)
theorem ixTk {X : Cx} (K : PySem.W.Frag) (h : X.K = K) : IxR X (rIxT K) := by
  subst h
  exact ix_tup
theorem ixLk {X : Cx} (K : PySem.W.Frag) (h : X.K = K) : IxR X (rIxL K) := by
  subst h
  exact ix_list
theorem ixSk {X : Cx} (K : PySem.W.Frag) (h : X.K = K) : IxR X (rIx K) := by
  subst h
  exact ix_seq
/-! ### forms -/
def SzF (n : Nat) (f : Rat × Rat) : Prop := KM.Sz n f.1 ∧ KM.Sz n f.2
/-- v is the fraction or None -/
def OptFr (K : PySem.W.Frag) (H : Hp) (v : V) : Option Rat → Prop
  | none => v = .non
  | some h => Fr K H v h
theorem OptFr.keep {K : PySem.W.Frag} {H H' : Hp} {v : V} {o : Option Rat} (e : Tups H H') (h : OptFr K H v o) : OptFr K H' v o := by
  cases o with
  | none => exact h
  | some x => exact Fr.keep e h
theorem OptFr.isn {K : PySem.W.Frag} {H : Hp} {v : V} {o : Option Rat} (h : OptFr K H v o) : (!decide (v = V.non)) = o.isSome := by
  cases o with
  | none => rw [show v = V.non from h]; rfl
  | some x =>
    obtain ⟨p, rfl, _⟩ := h
    rfl
theorem Paired.imp {α β : Type} {R S : α → β → Prop} (h : ∀ a b, R a b → S a b) : ∀ {xs : List α} {ys : List β}, Paired R xs ys → Paired S xs ys
  | _, _, .nil => .nil
  | _, _, .cons r t => .cons (h _ _ r) (Paired.imp h t)
theorem Paired.get {α β : Type} {R : α → β → Prop} : ∀ {xs : List α} {ys : List β} {i : Nat} {x : α}, Paired R xs ys → xs[i]? = some x → ∃ y, ys[i]? = some y ∧ R x y
  | _, _, _, _, .nil, e => by simp at e
  | _, _, 0, _, .cons r _, e => by simp at e; subst e; exact ⟨_, rfl, r⟩
  | _, _, i + 1, x, .cons _ t, e => by
    obtain ⟨u, h1, h2⟩ := Paired.get (i := i) (x := x) t (by simpa using e)
    exact ⟨u, by simpa using h1, h2⟩
theorem Paired.get' {α β : Type} {R : α → β → Prop} : ∀ {xs : List α} {ys : List β} {i : Nat} {y : β}, Paired R xs ys → ys[i]? = some y → ∃ x, xs[i]? = some x ∧ R x y
  | _, _, _, _, .nil, e => by simp at e
  | _, _, 0, _, .cons r _, e => by simp at e; subst e; exact ⟨_, rfl, r⟩
  | _, _, i + 1, x, .cons _ t, e => by
    obtain ⟨u, h1, h2⟩ := Paired.get' (i := i) (y := x) t (by simpa using e)
    exact ⟨u, by simpa using h1, h2⟩
theorem Paired.append {α β : Type} {R : α → β → Prop} : ∀ {xs ys : List α} {us ws : List β}, Paired R xs us → Paired R ys ws → Paired R (xs ++ ys) (us ++ ws)
  | _, _, _, _, .nil, s => s
  | _, _, _, _, .cons r t, s => .cons r (Paired.append t s)
theorem Paired.one {α β : Type} {R : α → β → Prop} {a : α} {b : β} (h : R a b) : Paired R [a] [b] := .cons h .nil
theorem take_more {α : Type} {l : List α} {i : Nat} {x : α} (h : l[i]? = some x) : l.take (i + 1) = l.take i ++ [x] := by
  rw [List.take_add_one, h]
  rfl
local macro_rules | `(tactic| walk_at "rd") => `(tactic| repeat (first | refine ⟨_, rfl, ?_⟩ | refine ⟨_, _, _, _, rfl, rfl, (by assumption), rfl, ?_⟩ | refine ⟨_, _, rfl, rfl, ?_⟩ | refine ⟨(by first | exact cm_nd (by assumption) (by assumption) | exact cm_nn (by assumption) (by assumption) | exact cm_dn (by assumption) (by assumption) | exact cm_dd (by assumption) (by assumption)), ?_⟩))
section
variable {P : Program} {w : World} {K : PySem.W.Frag} {mg : Str → Option Value} {base : Heap}
def spMinusF (K : PySem.W.Frag) : Sp := fun vs H Q _ => ∃ (a b : V) (f g : Rat × Rat), vs = [a, b] ∧ FmV K H a f ∧ FmV K H b g ∧ SzF 4000 f ∧ SzF 4000 g ∧
  ∀ v H', Same H H' → FmV K H' v (KM.subF f g) → Q v H'
theorem ok_minus_form (T : Txt K mg) : FnOk P w K mg base CX0 3 T.minus_form.f T.minus_form.fd ["one", "other"] (spMinusF K) := by
  refine T.minus_form.F.ok sc_minus_form (fun vs H Q E h => ?_) (fun cdv A outer s H vs Q E hr h => ?_)
  · obtain ⟨a, b, f, g, rfl, _⟩ := h
    rfl
  · obtain ⟨_, _, f, g, rfl, ⟨p, a, b, rfl, hp, ha, hb⟩, ⟨q, c, d, rfl, hq, hc, hd⟩, ⟨f1, f2⟩, ⟨g1, g2⟩, k⟩ := h
    refine ⟨_, (pss_one (ps_ret (pe_tup (pa_cons (pe_call (ok_minus T) (hr.mono (by decide)) (by rfl) T.minus.g T.minus.F.kp T.minus.b .nil pass0 (pa_cons (pe_ix ix_tup (pv 0) pe_int (fun _ _ => rfl)) (pa_cons (pe_ix ix_tup (pv 1) pe_int (fun _ _ => rfl)) pa_nil))) (pa_cons (pe_call (ok_minus T) (hr.mono (by decide)) (by rfl) T.minus.g T.minus.F.kp T.minus.b .nil pass0 (pa_cons (pe_ix ix_tup (pv 0) pe_int (fun _ _ => rfl)) (pa_cons (pe_ix ix_tup (pv 1) pe_int (fun _ _ => rfl)) pa_nil))) pa_nil))))), ?_⟩
    walk_at "rd"
    refine ⟨_, _, _, _, rfl, ha, hc, f1, g1, fun r nr => ?_⟩
    have e1 := tups_new (o := .tup (frV (f.1 - g.1))) nr
    have hp := e1.sqT hp
    have hq := e1.sqT hq
    walk_at "rd"
    refine ⟨_, _, _, _, rfl, hb.keep e1, hd.keep e1, f2, g2, fun t nt => ?_⟩
    have e2 := tups_new (o := .tup (frV (f.2 - g.2))) nt
    refine ⟨sz2, fun z nz => ?_⟩
    have e3 := tups_new (o := .tup [V.ref r, V.ref t]) nz
    refine k _ _ ((same_upd nr).trans ((same_upd nt).trans (same_upd nz))) ⟨z, _, _, rfl, .inl (.inl upd_same), (Fr.new.keep e2).keep e3, Fr.new.keep e3⟩
def spWorth (K : PySem.W.Frag) : Sp := fun vs H Q _ => ∃ (a b : V) (f : Rat × Rat) (x : Rat), vs = [a, b] ∧ FmV K H a f ∧ Fr K H b x ∧ SzF 1000 f ∧ KM.Sz 1000 x ∧
  ∀ v H', Same H H' → Fr K H' v (KM.val f x) → Q v H'
theorem ok_worth_at (T : Txt K mg) : FnOk P w K mg base CX0 3 T.worth_at.f T.worth_at.fd ["form", "width"] (spWorth K) := by
  refine T.worth_at.F.ok sc_worth_at (fun vs H Q E h => ?_) (fun cdv A outer s H vs Q E hr h => ?_)
  · obtain ⟨a, b, f, g, rfl, _⟩ := h
    rfl
  · obtain ⟨_, _, f, x, rfl, ⟨p, a, b, rfl, hp, ha, hb⟩, hx, ⟨f1, f2⟩, sx, k⟩ := h
    refine ⟨_, (pss_one (ps_ret (pe_call (ok_plus T) (hr.mono (by decide)) (by rfl) T.plus.g T.plus.F.kp T.plus.b .nil pass0 (pa_cons (pe_ix ix_tup (pv 0) pe_int (fun _ _ => rfl)) (pa_cons (pe_call (ok_times T) (hr.mono (by decide)) (by rfl) T.times.g T.times.F.kp T.times.b .nil pass0 (pa_cons (pe_ix ix_tup (pv 0) pe_int (fun _ _ => rfl)) (pa_cons (pv 1) pa_nil))) pa_nil))))), ?_⟩
    walk_at "rd"
    refine ⟨_, _, _, _, rfl, hb, hx, f2.mono (by decide), sx.mono (by decide), fun r nr => ?_⟩
    have e1 := tups_new (o := .tup (frV (f.2 * x))) nr
    refine ⟨_, _, _, _, rfl, ha.keep e1, Fr.new, f1.mono (by decide), (f2.mul sx).mono (by decide), fun t nt => ?_⟩
    exact k _ _ ((same_upd nr).trans (same_upd nt)) Fr.new
theorem fr_dp {K : PySem.W.Frag} {H : Hp} {v : V} {q : Rat} (h : Fr K H v q) : Dp K H v (.tuple [.int q.num, .int (q.den : Nat)]) := by
  obtain ⟨p, rfl, h⟩ := h
  exact .tup h (.cons (.int _) (.cons (.int _) .nil))
theorem fr_shaped (q : Rat) : SeqAt.shaped (.tuple [.int q.num, .int (q.den : Nat)]) = true := by
  rfl
theorem fr_eqv (x y : Rat) : PyData.eqv (.tuple [.int x.num, .int (x.den : Nat)]) (.tuple [.int y.num, .int (y.den : Nat)]) = decide (x = y) := by
  show (x.num == y.num && (((x.den : Nat) : Int) == ((y.den : Nat) : Int) && true)) = _
  rw [Bool.and_true]
  by_cases h : x = y
  · subst h
    simp
  · rw [decide_eq_false h]
    cases e : (x.num == y.num && ((x.den : Nat) : Int) == ((y.den : Nat) : Int)) with
    | false => rfl
    | true =>
      rw [Bool.and_eq_true, beq_iff_eq, beq_iff_eq] at e
      exact absurd (Rat.ext e.1 (by omega)) h
theorem val_sz {f : Rat × Rat} {x : Rat} (hf : SzF 1000 f) (hx : KM.Sz 1000 x) : KM.Sz 4000 (KM.val f x) := (hf.1.add (hf.2.mul hx)).mono (by decide)
def spGr (K : PySem.W.Frag) : Sp := fun vs H Q _ => ∃ (a b c : V) (f g : Rat × Rat) (x : Rat), vs = [a, b, c] ∧ FmV K H a f ∧ FmV K H b g ∧ Fr K H c x ∧ SzF 1000 f ∧ SzF 1000 g ∧ KM.Sz 1000 x ∧
  ∀ H', Same H H' → Q (.bl (KM.isGr f g x)) H'
theorem ok_is_greater_behind (T : Txt K mg) : FnOk P w K mg base CX0 4 T.is_greater_behind.f T.is_greater_behind.fd ["one", "other", "width"] (spGr K) := by
  refine T.is_greater_behind.F.ok sc_is_greater_behind (fun vs H Q E h => ?_) (fun cdv A outer s H vs Q E hr h => ?_)
  · obtain ⟨a, b, c, f, g, x, rfl, _⟩ := h
    rfl
  · obtain ⟨va, vb, vc, f, g, x, rfl, hf, hg, hx, sf, sg, sx, k⟩ := h
    refine ⟨_, (pss_cons (ps_par (i := 3) (j := 4) (by rfl) sc_is_greater_behind.nd rfl rfl (by decide) rfl rfl (pa_cons (pe_call (ok_worth_at T) (hr.mono (by decide)) (by rfl) T.worth_at.g T.worth_at.F.kp T.worth_at.b .nil pass0 (pa_cons (pv 0) (pa_cons (pv 2) pa_nil))) (pa_cons (pe_call (ok_worth_at T) (hr.mono (by decide)) (by rfl) T.worth_at.g T.worth_at.F.kp T.worth_at.b .nil pass0 (pa_cons (pv 1) (pa_cons (pv 2) pa_nil))) pa_nil)) (by rfl))
      (pss_one (ps_ret (pe_or (pe_call (ok_is_less T) (hr.mono (by decide)) (by rfl) T.is_less.g T.is_less.F.kp T.is_less.b .nil pass0 (pa_cons (pv 4) (pa_cons (pv 3) pa_nil))) (pe_one (pe_and (pe_cmpR (op_eqD hr.units) (pv 4) (pv 3) (nomark _)) (pe_one (pe_call (ok_is_less T) (hr.mono (by decide)) (by rfl) T.is_less.g T.is_less.F.kp T.is_less.b .nil pass0 (pa_cons (pe_ix ix_tup (pv 1) pe_int (fun _ _ => rfl)) (pa_cons (pe_ix ix_tup (pv 0) pe_int (fun _ _ => rfl)) pa_nil)))))))))), ?_⟩
    walk_at "rd"
    refine ⟨_, _, _, _, rfl, hf, hx, sf, sx, fun r1 H1 e1 w1 => ?_⟩
    walk_at "rd"
    refine ⟨_, _, _, _, rfl, hg.keep (.of e1), hx.keep (.of e1), sg, sx, fun r2 H2 e2 w2 => ?_⟩
    refine ⟨_, _, rfl, ?_⟩
    have w1 := w1.keep (.of e2)
    obtain ⟨pf, fa, fb, rfl, hpf, hfa, hfb⟩ := hf.keep (.of (e1.trans e2))
    obtain ⟨pg, ga, gb, rfl, hpg, hga, hgb⟩ := hg.keep (.of (e1.trans e2))
    have k := k _ (e1.trans e2)
    unfold KM.isGr at k
    refine ⟨_, rfl, _, rfl, _, _, _, _, rfl, w2, w1, val_sz sg sx, val_sz sf sx, _, rfl, ?_⟩
    refine ite2 (fun hc => ?_) (fun hc => ?_)
    · rw [show decide (KM.val g x < KM.val f x) = true from hc] at k
      exact k
    · rw [show decide (KM.val g x < KM.val f x) = false from by simpa using hc, Bool.false_or] at k
      refine ⟨_, rfl, _, rfl, _, _, fr_dp w2, fr_dp w1, fr_shaped _, fr_shaped _, _, rfl, ?_⟩
      rw [fr_eqv]
      refine ite2 (fun hd => ?_) (fun hd => ?_)
      · rw [hd, Bool.true_and] at k
        walk_at "rd"
        exact ⟨_, _, _, _, rfl, hgb, hfb, sg.2.mono (by decide), sf.2.mono (by decide), k⟩
      · rw [show decide (KM.val g x = KM.val f x) = false from by simpa using hd, Bool.false_and] at k
        exact k
/-! ### least_of, next_end -/
theorem headD_of {α : Type} {qs : List α} {d q : α} (h : qs[0]? = some q) : qs.headD d = q := by
  cases qs with
  | nil => cases h
  | cons a r => exact Option.some.inj h
def spLeast (K : PySem.W.Frag) : Sp := fun vs H Q _ => ∃ (l : Addr) (xs : List V) (qs : List Rat), vs = [.ref l] ∧ SqL K H l xs ∧ Paired (Fr K H) xs qs ∧ (∀ q ∈ qs, KM.Sz 4000 q) ∧ qs ≠ [] ∧
  ∀ v, Fr K H v (KM.leastOf qs) → Q v H
theorem ok_least_of (T : Txt K mg) : FnOk P w K mg base CX0 2 T.least_of.f T.least_of.fd ["fractions"] (spLeast K) := by
  refine T.least_of.F.ok sc_least_of (fun vs H Q E h => ?_) (fun cdv A outer s H vs Q E hr h => ?_)
  · obtain ⟨l, xs, qs, rfl, _⟩ := h
    rfl
  · obtain ⟨l, xs, qs, rfl, hl, hp, hz, hne, k⟩ := h
    refine ⟨_, (pss_cons (ps_set (i := 1) sc_least_of.nd rfl (Or.inl rfl) (pe_ix ix_list (pv 0) pe_int (fun _ _ => rfl)))
      (pss_cons (ps_for PassesOwn.never rfl (pi_list (pv 0)) (pg_name (i := 2) sc_least_of.nd rfl (Or.inl rfl)) (pss_one (ps_set (i := 1) sc_least_of.nd rfl (Or.inl rfl) (pe_ifExp (pt_val (pe_call (ok_is_less T) (hr.mono (by decide)) (by rfl) T.is_less.g T.is_less.F.kp T.is_less.b .nil pass0 (pa_cons (pv 2) (pa_cons (pv 1) pa_nil)))) (pv 2) (pv 1)))))
      (pss_one (ps_ret (pv 1))))), ?_⟩
    obtain ⟨q0, hq0⟩ : ∃ q, qs[0]? = some q := by
      cases qs with
      | nil => exact absurd rfl hne
      | cons a r => exact ⟨a, rfl⟩
    obtain ⟨x0, hx0, f0⟩ := Paired.get' hp hq0
    refine ⟨_, rfl, _, _, _, _, rfl, rfl, hl, atI_nat (j := 0) hx0, ?_⟩
    refine ⟨_, rfl, l, rfl, ⟨_, hl⟩, for_list (K := K) (a := l) (xs := xs) (fun i σ H' => H' = H ∧ ∃ v y, σ = [some (.ref l), some v, y] ∧ Fr K H v ((qs.take i).foldl KM.leastStep q0) ∧ KM.Sz 4000 ((qs.take i).foldl KM.leastStep q0))
      ⟨rfl, x0, none, rfl, f0, hz _ (List.mem_of_getElem? hq0)⟩ (fun i σ H' _ ⟨e, _⟩ => by rw [e]; exact hl) ?_ ?_⟩
    · rintro i x σ H' hi ⟨rfl, v, y, rfl, fv, sv⟩
      obtain ⟨q, hq, fx⟩ := Paired.get hp hi
      have sx := hz _ (List.mem_of_getElem? hq)
      refine ⟨_, rfl, _, rfl, _, _, _, _, rfl, fx, fv, sx, sv, _, rfl, ?_⟩
      rw [take_more hq, List.foldl_append]
      show if decide (q < (qs.take i).foldl KM.leastStep q0) = true then _ else _
      refine ite2 (fun hc => ?_) (fun hc => ?_)
      · have e : List.foldl KM.leastStep (List.foldl KM.leastStep q0 (List.take i qs)) [q] = q := if_pos (of_decide_eq_true hc)
        rw [e]
        exact ⟨_, rfl, rfl, _, _, rfl, fx, sx⟩
      · have e : List.foldl KM.leastStep (List.foldl KM.leastStep q0 (List.take i qs)) [q] = List.foldl KM.leastStep q0 (List.take i qs) := if_neg (fun z => hc (decide_eq_true z))
        rw [e]
        exact ⟨_, rfl, rfl, _, _, rfl, fv, sv⟩
    · rintro σ H' ⟨rfl, v, y, rfl, fv, sv⟩
      refine ⟨_, rfl, ?_⟩
      have el : xs.length = qs.length := Paired.length hp
      rw [el, List.take_length] at fv
      have e : KM.leastOf qs = qs.foldl KM.leastStep q0 := by
        unfold KM.leastOf
        rw [headD_of hq0]
      exact k v (by rw [e]; exact fv)
def frD (q : Rat) : PyData := .tuple [.int q.num, .int (q.den : Nat)]
theorem fr_all {K : PySem.W.Frag} {H : Hp} : ∀ {xs : List V} {qs : List Rat}, Paired (Fr K H) xs qs → DpAll K H xs (qs.map frD)
  | _, _, .nil => .nil
  | _, _, .cons r t => .cons (fr_dp r) (fr_all t)
theorem frs_shaped (qs : List Rat) : SeqAt.shaped (.list (qs.map frD)) = true := by
  have h1 : ∀ qs : List Rat, PyData.canLayAll0 (qs.map frD) = true := fun qs => by
    induction qs with
    | nil => rfl
    | cons q r ih =>
      show (PyData.canLay0 (frD q) && PyData.canLayAll0 (r.map frD)) = true
      rw [ih]
      rfl
  have h2 : ∀ qs : List Rat, PyData.depthAll (qs.map frD) ≤ 1 := fun qs => by
    induction qs with
    | nil => exact Nat.zero_le _
    | cons q r ih =>
      show max (PyData.depth (frD q)) (PyData.depthAll (r.map frD)) ≤ 1
      have : PyData.depth (frD q) = 1 := rfl
      omega
  show (PyData.canLayAll0 (qs.map frD) && decide (PyData.depthAll (qs.map frD) + 1 ≤ 64)) = true
  rw [h1, Bool.true_and]
  exact decide_eq_true (by have := h2 qs; omega)
theorem up_sz {b f : Rat × Rat} (sb : SzF 240 b) (sf : SzF 240 f) (h : b.2 < f.2) : KM.Sz 1000 (KM.rootUp b f) :=
  ((sb.1.sub sf.1).div (sf.2.sub sb.2) (by grind)).mono (by decide)
def spNext (K : PySem.W.Frag) : Sp := fun vs H Q _ => ∃ (l : Addr) (vb : V) (xs : List V) (fs : List (Rat × Rat)) (b : Rat × Rat), vs = [.ref l, vb] ∧ SqL K H l xs ∧ Paired (FmV K H) xs fs ∧ FmV K H vb b ∧
  (∀ f ∈ fs, SzF 240 f) ∧ SzF 240 b ∧ fs.length ≤ 1000 ∧ ∀ v H', Same H H' → OptFr K H' v (KM.nextEnd fs b) → Q v H'
theorem ok_next_end (T : Txt K mg) : FnOk P w K mg base CX0 3 T.next_end.f T.next_end.fd ["forms", "best"] (spNext K) := by
  refine T.next_end.F.ok sc_next_end (fun vs H Q E h => ?_) (fun cdv A outer s H vs Q E hr h => ?_)
  · obtain ⟨l, vb, xs, fs, b, rfl, _⟩ := h
    rfl
  · obtain ⟨l, vb, xs, fs, b, rfl, hl, hp, hb, hz, sb, hlen, k⟩ := h
    refine ⟨_, (pss_cons (ps_setLc (i := 2) (own := [("one", 3)]) (g := gName 3) (by rfl) sc_next_end.nd rfl rfl (sw_true rfl rfl rfl (by decide +kernel)) (pi_list (pv 0)) (blkOk_by (own := [("one", 3)]) (N := ["forms", "best", "ends", "one"]) (sc := defScope s_next_end) (by decide +kernel)) (fun _ _ _ _ _ => pg_name (i := 3) sc_next_end.nd rfl (Or.inl rfl)) (fun _ _ _ _ _ => pts_one (pt_val (pe_call (ok_is_less T) (hr.mono (by decide)) (by rfl) T.is_less.g T.is_less.F.kp T.is_less.b .nil pass0 (pa_cons (pe_ix (ixTk K rfl) (pv 1) pe_int (fun _ _ => rfl)) (pa_cons (pe_ix (ixTk K rfl) (pv 3) pe_int (fun _ _ => rfl)) pa_nil))))) (fun _ _ _ _ _ => (pe_call (ok_over T) (hr.mono (by decide)) (by rfl) T.over.g T.over.F.kp T.over.b .nil pass0 (pa_cons (pe_call (ok_minus T) (hr.mono (by decide)) (by rfl) T.minus.g T.minus.F.kp T.minus.b .nil pass0 (pa_cons (pe_ix (ixTk K rfl) (pv 1) pe_int (fun _ _ => rfl)) (pa_cons (pe_ix (ixTk K rfl) (pv 3) pe_int (fun _ _ => rfl)) pa_nil))) (pa_cons (pe_call (ok_minus T) (hr.mono (by decide)) (by rfl) T.minus.g T.minus.F.kp T.minus.b .nil pass0 (pa_cons (pe_ix (ixTk K rfl) (pv 3) pe_int (fun _ _ => rfl)) (pa_cons (pe_ix (ixTk K rfl) (pv 1) pe_int (fun _ _ => rfl)) pa_nil))) pa_nil)))))
      (pss_one (ps_ret (pe_ifExp (pt_cmpR (op_neD hr.units) (pv 2) (pe_lst pa_nil) (nomark _)) (pe_call (ok_least_of T) (hr.mono (by decide)) (by rfl) T.least_of.g T.least_of.F.kp T.least_of.b .nil pass0 (pa_cons (pv 2) pa_nil)) pe_non)))), ?_⟩
    have el : xs.length = fs.length := Paired.length hp
    refine ⟨_, rfl, l, rfl, ⟨_, hl⟩, fun D nD => lc_list (K := K) (a := l) (xs := xs) (fun i H' => Same H H' ∧ ∃ acc, H' D = some (.lst acc) ∧ Paired (Fr K H') acc (KM.endsOf (fs.take i) b)) ⟨same_upd nD, [], upd_same, .nil⟩ (fun i H' _ ⟨e, _⟩ => e.seq hl) ?_ ?_⟩
    · rintro i x H' hi ⟨eS, acc, hD, hacc⟩
      obtain ⟨f, hf, fx⟩ := Paired.get hp hi
      have sf := hz _ (List.mem_of_getElem? hf)
      obtain ⟨pf, fa, fb, rfl, hpf, hfa, hfb⟩ := fx.keep (.of eS)
      obtain ⟨pb, ba, bb, rfl, hpb, hba, hbb⟩ := hb.keep (.of eS)
      refine ⟨rfl, ?_⟩
      have en : KM.endsOf (fs.take (i + 1)) b = KM.endsOf (fs.take i) b ++ KM.endsOf [f] b := by
        unfold KM.endsOf
        rw [take_more hf, List.filter_append, List.map_append]
      walk_at "rd"
      refine ⟨_, _, _, _, rfl, hbb, hfb, sb.2.mono (by decide), sf.2.mono (by decide), _, rfl, ?_⟩
      refine ite2 (fun hc => ?_) (fun hc => ?_)
      · have hlt : b.2 < f.2 := of_decide_eq_true hc
        have e1 : KM.endsOf [f] b = [KM.rootUp b f] := by
          unfold KM.endsOf
          rw [List.filter_cons_of_pos (by simpa using hlt)]
          rfl
        walk_at "rd"
        refine ⟨_, _, _, _, rfl, hba, hfa, sb.1.mono (by decide), sf.1.mono (by decide), fun r1 n1 => ?_⟩
        have u1 := tups_new (o := .tup (frV (b.1 - f.1))) n1
        have hpf := u1.sqT hpf
        have hpb := u1.sqT hpb
        walk_at "rd"
        refine ⟨_, _, _, _, rfl, hfb.keep u1, hbb.keep u1, sf.2.mono (by decide), sb.2.mono (by decide), fun r2 n2 => ?_⟩
        have u2 := tups_new (o := .tup (frV (f.2 - b.2))) n2
        refine ⟨_, _, _, _, rfl, Fr.new.keep u2, Fr.new, (sb.1.sub sf.1).mono (by decide), (sf.2.sub sb.2).mono (by decide), (by grind), fun r3 n3 => ?_⟩
        have u3 := tups_new (o := .tup (frV ((b.1 - f.1) / (f.2 - b.2)))) n3
        have s3 := (same_upd (o := .tup (frV (b.1 - f.1))) n1).trans ((same_upd (o := .tup (frV (f.2 - b.2))) n2).trans (same_upd (o := .tup (frV ((b.1 - f.1) / (f.2 - b.2)))) n3))
        have hD3 := s3 _ _ hD
        refine ⟨acc, hD3, ?_, ?_, acc ++ [.ref r3], upd_same, ?_⟩
        · have := Paired.length hacc
          have h2 : (KM.endsOf (fs.take i) b).length ≤ 1000 := by
            unfold KM.endsOf
            rw [List.length_map]
            refine Nat.le_trans (List.length_filter_le _ _) ?_
            rw [List.length_take]
            omega
          exact small1000 (by omega)
        · intro c o ho
          rw [upd_ne (ne_of_none ho nD)]
          exact s3 _ _ (eS _ _ ho)
        · rw [en, e1]
          exact Paired.append (Paired.imp (fun a q h => (Fr.keep (.of s3) h).keep (tups_lst hD3)) hacc) (Paired.one (Fr.new.keep (tups_lst hD3)))
      · have hlt : ¬ b.2 < f.2 := fun z => hc (decide_eq_true z)
        have e1 : KM.endsOf [f] b = [] := by
          unfold KM.endsOf
          rw [List.filter_cons_of_neg (by simpa using hlt)]
          rfl
        exact ⟨eS, acc, hD, by rw [en, e1, List.append_nil]; exact hacc⟩
    · rintro H' ⟨eS, acc, hD, hacc⟩
      rw [el, List.take_length] at hacc
      refine ⟨_, rfl, Nat.zero_le _, fun e ne => ?_⟩
      have s1 := same_upd (o := .lst []) ne
      have hD1 := s1 _ _ hD
      have hacc1 := Paired.imp (fun a q h => Fr.keep (.of s1) h) hacc
      refine ⟨.list ((KM.endsOf fs b).map frD), .list [], .lst (SqL.of hD1) (fr_all hacc1), .lst (SqL.of upd_same) .nil, frs_shaped _, rfl, _, rfl, ?_⟩
      refine ite2 (fun hc => ?_) (fun hc => ?_)
      · have hne : KM.endsOf fs b ≠ [] := fun z => by
          rw [z] at hc
          cases hc
        refine ⟨_, rfl, D, acc, _, rfl, SqL.of hD1, hacc1, fun q hq => ?_, hne, fun v hv => ?_⟩
        · obtain ⟨f, hf, hl, rfl⟩ := KM.mem_ends.mp hq
          exact (up_sz sb (hz _ hf) hl).mono (by decide)
        · have en : KM.nextEnd fs b = some (KM.leastOf (KM.endsOf fs b)) := if_pos hne
          exact k v _ (eS.trans s1) (by rw [en]; exact hv)
      · have hne : KM.endsOf fs b = [] := by
          cases z : KM.endsOf fs b with
          | nil => rfl
          | cons a r =>
            rw [z] at hc
            exact absurd rfl hc
        have en : KM.nextEnd fs b = none := if_neg (by rw [hne]; simp)
        exact k _ _ (eS.trans s1) (by rw [en]; rfl)
end
end KX
set_option Elab.async false
set_option linter.all false
set_option maxRecDepth 100000
set_option maxHeartbeats 4000000
set_option exponentiation.threshold 20000
namespace KX
open PySem PySem.Spec PyProof.Rows L2
/-! ### outline_of -/
/-- v is the piece p: ((low, is_in, high, high is not None), form) -/
def PcV (K : PySem.W.Frag) (H : Hp) (v : V) (p : KM.Piece) : Prop := ∃ q t a h b, v = .ref q ∧ SqT K H q [.ref t, b] ∧ SqT K H t [a, .bl p.isin, h, .bl p.high.isSome] ∧ Fr K H a p.low ∧ OptFr K H h p.high ∧ FmV K H b p.form
theorem PcV.keep {K : PySem.W.Frag} {H H' : Hp} {v : V} {p : KM.Piece} (e : Tups H H') (h : PcV K H v p) : PcV K H' v p := by
  obtain ⟨q, t, a, h, b, rfl, h1, h2, h3, h4, h5⟩ := h
  exact ⟨q, t, a, h, b, rfl, e.sqT h1, e.sqT h2, h3.keep e, h4.keep e, h5.keep e⟩
/-- what holds at the head of the loop -/
def InvOut (K : PySem.W.Frag) (H : Hp) (l r : Addr) (fs : List (Rat × Rat)) (m : Nat) (σ : L2.St) (H' : Hp) : Prop :=
  Same H H' ∧ ∃ (vs : List V) (lowv : V) (c : Bool) (y4 y5 y6 : Option V) (dn : List KM.Piece), σ = [some (.ref l), some (.ref r), some lowv, some (.bl c), y4, y5, y6] ∧ H' r = some (.lst vs) ∧ Paired (PcV K H') vs dn ∧ dn.length ≤ fs.length + 1 ∧
    ((lowv = .non ∧ dn = KM.outl fs (fs.length + 1) 0 true) ∨
      ∃ low : Rat, Fr K H' lowv low ∧ 0 ≤ low ∧ KM.Sz 1000 low ∧ dn ++ KM.outl fs m low c = KM.outl fs (fs.length + 1) 0 true ∧ KM.cnt fs (KM.bestOf fs low) < m ∧ m + dn.length = fs.length + 1)
section
variable {P : Program} {w : World} {K : PySem.W.Frag} {mg : Str → Option Value} {base : Heap}
def spOutl (K : PySem.W.Frag) : Sp := fun vs H Q _ => ∃ (l : Addr) (xs : List V) (fs : List (Rat × Rat)), vs = [.ref l] ∧ SqL K H l xs ∧ Paired (FmV K H) xs fs ∧ fs ≠ [] ∧ (∀ f ∈ fs, SzF 240 f) ∧ fs.length ≤ 999 ∧
  ∀ r H' ys, Same H H' → H r = none → H' r = some (.lst ys) → Paired (PcV K H') ys (KM.outl fs (fs.length + 1) 0 true) → Q (.ref r) H'
theorem ok_outline_of (T : Txt K mg) : FnOk P w K mg base CX0 5 T.outline_of.f T.outline_of.fd ["forms"] (spOutl K) := by
  refine T.outline_of.F.ok sc_outline_of (fun vs H Q E h => ?_) (fun cdv A outer s H vs Q E hr h => ?_)
  · obtain ⟨l, xs, fs, rfl, _⟩ := h
    rfl
  · obtain ⟨l, xs, fs, rfl, hl, hp, hne, hz, hlen, k⟩ := h
    refine ⟨_, (pss_cons (ps_par3 (i := 1) (j := 2) (l := 3) (by rfl) sc_outline_of.nd rfl rfl rfl (by decide) (by decide) (by decide) rfl rfl rfl (pa_cons (pe_lst pa_nil) (pa_cons (pe_cn (by rfl) T.ZERO.g) (pa_cons pe_bl pa_nil))) (by rfl))
      (pss_cons (ps_while PassesOwn.never (pt_cmpR op_notN (pv 2) pe_non (nomark _)) (pss_cons (ps_set (i := 4) sc_outline_of.nd rfl (Or.inl rfl) (pe_ix ix_list (pv 0) pe_int (fun _ _ => rfl)))
      (pss_cons (ps_for PassesOwn.never rfl (pi_list (pv 0)) (pg_name (i := 5) sc_outline_of.nd rfl (Or.inl rfl)) (pss_one (ps_set (i := 4) sc_outline_of.nd rfl (Or.inl rfl) (pe_ifExp (pt_val (pe_call (ok_is_greater_behind T) (hr.mono (by decide)) (by rfl) T.is_greater_behind.g T.is_greater_behind.F.kp T.is_greater_behind.b .nil pass0 (pa_cons (pv 5) (pa_cons (pv 4) (pa_cons (pv 2) pa_nil))))) (pv 5) (pv 4)))))
      (pss_cons (ps_set (i := 6) sc_outline_of.nd rfl (Or.inl rfl) (pe_call (ok_next_end T) (hr.mono (by decide)) (by rfl) T.next_end.g T.next_end.F.kp T.next_end.b .nil pass0 (pa_cons (pv 0) (pa_cons (pv 4) pa_nil))))
      (pss_cons (ps_expr (pe_bm PySem.F.plainAttrs_list PySem.F.slot_list_append PySem.F.type_list_append mt_append (pv 1) (pa_cons (pe_tup (pa_cons (pe_tup (pa_cons (pv 2) (pa_cons (pv 3) (pa_cons (pv 6) (pa_cons (pe_cmpR op_notN (pv 6) pe_non (nomark _)) pa_nil))))) (pa_cons (pv 4) pa_nil))) pa_nil)))
      (pss_one (ps_par (i := 2) (j := 3) (by rfl) sc_outline_of.nd rfl rfl (by decide) rfl rfl (pa_cons (pv 6) (pa_cons pe_bl pa_nil)) (by rfl))))))))
      (pss_one (ps_ret (pv 1))))), ?_⟩
    have el : xs.length = fs.length := Paired.length hp
    obtain ⟨f0, hf0⟩ : ∃ q, fs[0]? = some q := by
      cases fs with
      | nil => exact absurd rfl hne
      | cons a r => exact ⟨a, rfl⟩
    obtain ⟨x0, hx0, p0⟩ := Paired.get' hp hf0
    refine ⟨Nat.zero_le _, fun r nr => ?_⟩
    refine ⟨_, _, _, rfl, InvOut K H l r fs, ⟨fs.length + 1, same_upd nr, [], _, true, none, none, none, [], rfl, upd_same, .nil, Nat.zero_le _, .inr ⟨0, ?_, Rat.le_refl, KM.Sz.zero (by decide), rfl, ?_, rfl⟩⟩, ?_⟩
    · exact ⟨_, rfl, sqT_none T.zero_at⟩
    · have := KM.cnt_le fs (KM.bestOf fs 0)
      omega
    · rintro m σ H1 ⟨s1, ys, lowv, c, y4, y5, y6, dn, rfl, hr1, hys, hdl, hcase⟩
      refine ⟨_, rfl, rfl, _, rfl, ?_⟩
      rcases hcase with ⟨rfl, hdn⟩ | ⟨low, hlow, h0, slow, hout, hcnt, hm⟩
      · refine iteF ?_
        refine ⟨_, rfl, ?_⟩
        exact k r H1 ys s1 nr hr1 (by rw [← hdn]; exact hys)
      · obtain ⟨lp, rfl, hlp⟩ := id hlow
        refine iteT ?_
        refine ⟨fun σ' H' => ∃ m', m' < m ∧ InvOut K H l r fs m' σ' H', fun σ' H' hN => hN, ?_⟩
        -- best = forms[0]
        have hl1 := s1.seq hl
        refine ⟨_, rfl, _, _, _, _, rfl, rfl, hl1, atI_nat (j := 0) hx0, ?_⟩
        refine ⟨_, rfl, l, rfl, ⟨_, hl1⟩, for_list (K := K) (a := l) (xs := xs) (fun i σ H' => Same H1 H' ∧ ∃ bv y5, σ = [some (.ref l), some (.ref r), some (.ref lp), some (.bl c), some bv, y5, y6] ∧ FmV K H' bv ((fs.take i).foldl (KM.bestStep low) f0) ∧ SzF 240 ((fs.take i).foldl (KM.bestStep low) f0))
          ⟨Same.refl _, x0, y5, rfl, p0.keep (.of s1), hz _ (List.mem_of_getElem? hf0)⟩ (fun i σ H' _ ⟨e, _⟩ => e.seq hl1) ?_ ?_⟩
        · rintro i x σ H2 hi ⟨s2, bv, y5', rfl, hb, sb⟩
          obtain ⟨f, hf, fx⟩ := Paired.get hp hi
          have sf := hz _ (List.mem_of_getElem? hf)
          have fx := fx.keep (.of (s1.trans s2))
          refine ⟨_, rfl, _, rfl, _, rfl, _, _, _, _, _, _, rfl, fx, hb, hlow.keep (.of s2), ⟨sf.1.mono (by decide), sf.2.mono (by decide)⟩, ⟨sb.1.mono (by decide), sb.2.mono (by decide)⟩, slow, fun H3 s3 => ?_⟩
          refine ⟨_, rfl, ?_⟩
          rw [take_more hf, List.foldl_append]
          refine ite2 (fun hc => ?_) (fun hc => ?_)
          · have e : List.foldl (KM.bestStep low) (List.foldl (KM.bestStep low) f0 (fs.take i)) [f] = f := if_pos hc
            rw [e]
            exact ⟨_, rfl, s2.trans s3, _, _, rfl, fx.keep (.of s3), sf⟩
          · have e : List.foldl (KM.bestStep low) (List.foldl (KM.bestStep low) f0 (fs.take i)) [f] = List.foldl (KM.bestStep low) f0 (fs.take i) := if_neg hc
            rw [e]
            exact ⟨_, rfl, s2.trans s3, _, _, rfl, hb.keep (.of s3), sb⟩
        · rintro σ H2 ⟨s2, bv, y5', rfl, hb, sb⟩
          rw [el, List.take_length] at hb sb
          have eb : KM.bestOf fs low = fs.foldl (KM.bestStep low) f0 := by
            unfold KM.bestOf
            rw [headD_of hf0]
          rw [← eb] at hb sb
          -- high = next_end(forms, best)
          refine ⟨_, rfl, _, rfl, l, bv, xs, fs, _, rfl, s2.seq hl1, Paired.imp (fun a q h => h.keep (.of (s1.trans s2))) hp, hb, hz, sb, by omega, fun hv H3 s3 hH => ?_⟩
          have s03 := s1.trans (s2.trans s3)
          have hr3 := (s2.trans s3) _ _ hr1
          have hys3 := Paired.imp (fun a q h => PcV.keep (.of (s2.trans s3)) h) hys
          -- found.append(((low, is_in, high, high is not None), best))
          refine ⟨_, rfl, .inl ⟨rfl, _, SqL.of hr3⟩, _, rfl, _, rfl, _, rfl, _, rfl, rfl, sz4, fun t nt => ?_⟩
          rw [hH.isn]
          refine ⟨_, rfl, sz2, fun q nq => ?_⟩
          have s4 := (same_upd (o := .tup [V.ref lp, V.bl c, hv, V.bl (KM.nextEnd fs (KM.bestOf fs low)).isSome]) nt)
          have s5 := (same_upd (o := .tup [V.ref t, bv]) nq)
          have s45 := s4.trans s5
          have hr5 := s45 _ _ hr3
          have hlenys : ys.length = dn.length := Paired.length hys
          refine ⟨r, _, _, rfl, rfl, hr5, small1000 (by omega), ?_⟩
          have t6 : Tups (upd (upd H3 t (.tup [V.ref lp, V.bl c, hv, V.bl (KM.nextEnd fs (KM.bestOf fs low)).isSome])) q (.tup [V.ref t, bv])) _ := tups_lst (o := .lst (ys ++ [.ref q])) hr5
          have pc : ∀ z, KM.nextEnd fs (KM.bestOf fs low) = z → PcV K (upd (upd (upd H3 t (.tup [V.ref lp, V.bl c, hv, V.bl (KM.nextEnd fs (KM.bestOf fs low)).isSome])) q (.tup [V.ref t, bv])) r (.lst (ys ++ [.ref q]))) (.ref q) ⟨low, c, z, KM.bestOf fs low⟩ := fun z ez => by
            subst ez
            exact ⟨q, t, _, _, _, rfl, t6.sqT (.inl (.inl upd_same)), t6.sqT ((Tups.of s5).sqT (.inl (.inl upd_same))), (hlow.keep (.of (s2.trans (s3.trans s45)))).keep t6, (hH.keep (.of s45)).keep t6, (hb.keep (.of (s3.trans s45))).keep t6⟩
          have done : ∀ z, KM.nextEnd fs (KM.bestOf fs low) = z → Paired (PcV K (upd (upd (upd H3 t (.tup [V.ref lp, V.bl c, hv, V.bl (KM.nextEnd fs (KM.bestOf fs low)).isSome])) q (.tup [V.ref t, bv])) r (.lst (ys ++ [.ref q])))) (ys ++ [.ref q]) (dn ++ [⟨low, c, z, KM.bestOf fs low⟩]) := fun z ez =>
            Paired.append (Paired.imp (fun a q h => (PcV.keep (.of s45) h).keep t6) hys3) (Paired.one (pc z ez))
          have sF : Same H (upd (upd (upd H3 t (.tup [V.ref lp, V.bl c, hv, V.bl (KM.nextEnd fs (KM.bestOf fs low)).isSome])) q (.tup [V.ref t, bv])) r (.lst (ys ++ [.ref q]))) := fun b o e => by
            rw [upd_ne (ne_of_none e nr)]
            exact (s03.trans s45) _ _ e
          refine ⟨_, rfl, _, _, rfl, ?_⟩
          obtain ⟨m', rfl, hnone, hsome⟩ := KM.outl_step hne c hcnt
          cases ez : KM.nextEnd fs (KM.bestOf fs low) with
          | none =>
            have ehv : hv = .non := by
              rw [ez] at hH
              exact hH
            subst ehv
            have e := hnone ez
            rw [e] at hout
            refine ⟨0, by omega, ?_⟩
            have := done _ ez
            rw [ez] at this sF
            exact ⟨sF, _, _, _, _, _, _, _, rfl, upd_same, this, by rw [List.length_append, List.length_singleton]; omega, .inl ⟨rfl, hout⟩⟩
          | some h =>
            obtain ⟨e, hc2, hlt⟩ := hsome h ez
            rw [e] at hout
            refine ⟨m', by omega, ?_⟩
            have := done _ ez
            have fh : Fr K (upd (upd (upd H3 t (.tup [V.ref lp, V.bl c, hv, V.bl (KM.nextEnd fs (KM.bestOf fs low)).isSome])) q (.tup [V.ref t, bv])) r (.lst (ys ++ [.ref q]))) hv h := by
              have := hH
              rw [ez] at this
              exact (Fr.keep (.of s45) this).keep t6
            have sh : KM.Sz 1000 h := by
              obtain ⟨⟨f, hf, hl, rfl⟩, _⟩ := KM.nextEnd_some ez
              exact up_sz sb (hz _ hf) hl
            rw [ez] at this sF fh
            exact ⟨sF, _, _, _, _, _, _, _, rfl, upd_same, this, by rw [List.length_append, List.length_singleton]; omega, .inr ⟨h, fh, by grind, sh, by rw [List.append_assoc]; exact hout, hc2, by rw [List.length_append, List.length_singleton]; omega⟩⟩
end
end KX
set_option Elab.async false
set_option linter.all false
set_option maxRecDepth 100000
set_option maxHeartbeats 4000000
set_option exponentiation.threshold 20000
namespace KX
open PySem PySem.Spec PyProof.Rows L2
/-! ### any data: None, bools, ints, texts, lists, tuples, the empty dict -/
mutual
inductive Dat (K : PySem.W.Frag) (H : Hp) : V → PyData → Prop
  | non : Dat K H .non .none
  | bl (b : Bool) : Dat K H (.bl b) (.bool b)
  | int (i : Int) : Dat K H (.int i) (.int i)
  | str (x : Str) : Dat K H (.str x) (.str x)
  | lst {a : Addr} {xs : List V} {ds : List PyData} : H a = some (.lst xs) → DatAll K H xs ds → Dat K H (.ref a) (.list ds)
  | tup {a : Addr} {xs : List V} {ds : List PyData} : SqT K H a xs → DatAll K H xs ds → Dat K H (.ref a) (.tuple ds)
  | dct {a : Addr} : H a = some (.dK []) → Dat K H (.ref a) (.dict [])
inductive DatAll (K : PySem.W.Frag) (H : Hp) : List V → List PyData → Prop
  | nil : DatAll K H [] []
  | cons {v : V} {vs : List V} {d : PyData} {ds : List PyData} : Dat K H v d → DatAll K H vs ds → DatAll K H (v :: vs) (d :: ds)
end
section
variable {K : PySem.W.Frag} {H H' : Hp}
mutual
theorem Dat.keep (e : Same H H') : ∀ (d : PyData) (v : V), Dat K H v d → Dat K H' v d
  | .none, v, h => by cases h; exact .non
  | .bool b, v, h => by cases h; exact .bl b
  | .int b, v, h => by cases h; exact .int b
  | .str b, v, h => by cases h; exact .str b
  | .list ds, v, h => by cases h with | lst h1 h2 => exact .lst (e _ _ h1) (DatAll.keep e ds _ h2)
  | .tuple ds, v, h => by cases h with | tup h1 h2 => exact .tup (e.sqT h1) (DatAll.keep e ds _ h2)
  | .dict ds, v, h => by cases h with | dct h1 => exact .dct (e _ _ h1)
theorem DatAll.keep (e : Same H H') : ∀ (ds : List PyData) (vs : List V), DatAll K H vs ds → DatAll K H' vs ds
  | [], vs, h => by cases h; exact .nil
  | d :: ds, vs, h => by cases h with | cons h1 h2 => exact .cons (Dat.keep e d _ h1) (DatAll.keep e ds _ h2)
end
theorem Dat.k (e : Same H H') {v : V} {d : PyData} (h : Dat K H v d) : Dat K H' v d := Dat.keep e d v h
theorem DatAll.k (e : Same H H') {v : List V} {d : List PyData} (h : DatAll K H v d) : DatAll K H' v d := DatAll.keep e d v h
theorem DatAll.length : ∀ {vs : List V} {ds : List PyData}, DatAll K H vs ds → vs.length = ds.length
  | _, _, .nil => rfl
  | _, _, .cons _ t => by rw [List.length_cons, List.length_cons, DatAll.length t]
theorem DatAll.get : ∀ {vs : List V} {ds : List PyData} {i : Nat} {v : V}, DatAll K H vs ds → vs[i]? = some v → ∃ d, ds[i]? = some d ∧ Dat K H v d
  | _, _, _, _, .nil, e => by simp at e
  | _, _, 0, _, .cons r _, e => by simp at e; subst e; exact ⟨_, rfl, r⟩
  | _, _, i + 1, x, .cons _ t, e => by
    obtain ⟨u, h1, h2⟩ := DatAll.get (i := i) (v := x) t (by simpa using e)
    exact ⟨u, by simpa using h1, h2⟩
theorem DatAll.append : ∀ {xs ys : List V} {us ws : List PyData}, DatAll K H xs us → DatAll K H ys ws → DatAll K H (xs ++ ys) (us ++ ws)
  | _, _, _, _, .nil, s => s
  | _, _, _, _, .cons r t, s => .cons r (DatAll.append t s)
theorem DatAll.of : ∀ {xs : List V} {ds : List PyData}, Paired (Dat K H) xs ds → DatAll K H xs ds
  | _, _, .nil => .nil
  | _, _, .cons r t => .cons r (DatAll.of t)
theorem DatAll.toP : ∀ {xs : List V} {ds : List PyData}, DatAll K H xs ds → Paired (Dat K H) xs ds
  | _, _, .nil => .nil
  | _, _, .cons r t => .cons r (DatAll.toP t)
theorem fr_dat {v : V} {q : Rat} (h : Fr K H v q) : Dat K H v (frD q) := by
  obtain ⟨p, rfl, h⟩ := h
  exact .tup h (.cons (.int _) (.cons (.int _) .nil))
def fmD (f : Rat × Rat) : PyData := .tuple [frD f.1, frD f.2]
theorem fm_dat {v : V} {f : Rat × Rat} (h : FmV K H v f) : Dat K H v (fmD f) := by
  obtain ⟨p, a, b, rfl, h, h1, h2⟩ := h
  exact .tup h (.cons (fr_dat h1) (.cons (fr_dat h2) .nil))
/-- a list or a tuple of xs at a -/
def Sq (K : PySem.W.Frag) (H : Hp) (a : Addr) (xs : List V) : Prop := SqL K H a xs ∨ SqT K H a xs
theorem Sq.keep (e : Same H H') {a : Addr} {xs : List V} (h : Sq K H a xs) : Sq K H' a xs := h.elim (fun h => .inl (e.seq h)) (fun h => .inr (e.sqT h))
def seqD : PyData → Option (List PyData)
  | .list ds => some ds
  | .tuple ds => some ds
  | _ => none
theorem dat_seq {v : V} {d : PyData} {ds : List PyData} (h : Dat K H v d) (e : seqD d = some ds) : ∃ a xs, v = .ref a ∧ Sq K H a xs ∧ DatAll K H xs ds := by
  cases h with
  | non => cases e
  | bl => cases e
  | int => cases e
  | str => cases e
  | dct => cases e
  | lst h1 h2 => cases e; exact ⟨_, _, rfl, .inl (SqL.of h1), h2⟩
  | tup h1 h2 => cases e; exact ⟨_, _, rfl, .inr h1, h2⟩
theorem ix_at {a : Addr} {xs : List V} {i : Int} {v : V} {Q : VK} (h : Sq K H a xs) (hv : atI xs i = some v) (q : Q v H) : rIx K (.ref a) (.int i) H Q :=
  h.elim (fun h => .inl ⟨_, _, _, _, rfl, rfl, h, hv, q⟩) (fun h => .inr (.inl ⟨_, _, _, _, rfl, rfl, h, hv, q⟩))
/-! ### types -/
def tyName : PyData → String
  | .none => "NoneType"
  | .bool _ => "bool"
  | .int _ => "int"
  | .str _ => "str"
  | .list _ => "list"
  | .tuple _ => "tuple"
  | .dict _ => "dict"
theorem dat_ty {v : V} {d : PyData} (h : Dat K H v d) : TyX K H v (.type (tyName d)) := by
  cases h with
  | non => exact .base .non
  | bl => exact .base (.bl _)
  | int => exact .base (.int _)
  | str => exact .base (.str _)
  | lst h1 h2 => exact .base (.lst h1)
  | dct h1 => exact .base (.dK h1)
  | tup h1 h2 =>
    rcases h1 with (h | ⟨o, h⟩) | ⟨o, its, n, e, c, _⟩
    · exact .base (.tup h)
    · exact .fTuple h
    · exact .kTuple e c
theorem kit_two {a b c : String} {x y : Bool} (h1 : kitB a b = some x) (h2 : kitB a c = some y) : PySem.W.kitAny K (.type a) [.type b, .type c] = some (x || y) :=
  kitAny_cons (b := x) (kit_ty h1) (fun e => by subst e; exact kitAny_cons (b := y) (kit_ty h2) (fun e => by subst e; exact kitAny_nil) (fun e => by subst e; rfl)) (fun e => by subst e; rfl)
def isListD (d : PyData) : Bool := (seqD d).isSome
def isWholeD : PyData → Bool
  | .int _ => true
  | _ => false
def intLike : PyData → Bool
  | .int _ => true
  | .bool _ => true
  | _ => false
def isBoolD : PyData → Bool
  | .bool _ => true
  | _ => false
theorem kit_list (d : PyData) : PySem.W.kitAny K (.type (tyName d)) [.type "list", .type "tuple"] = some (isListD d) := by
  cases d with
  | none => exact kit_two (a := "NoneType") (b := "list") (c := "tuple") (x := false) (y := false) (by decide +kernel) (by decide +kernel)
  | bool b => exact kit_two (a := "bool") (b := "list") (c := "tuple") (x := false) (y := false) (by decide +kernel) (by decide +kernel)
  | int i => exact kit_two (a := "int") (b := "list") (c := "tuple") (x := false) (y := false) (by decide +kernel) (by decide +kernel)
  | str x => exact kit_two (a := "str") (b := "list") (c := "tuple") (x := false) (y := false) (by decide +kernel) (by decide +kernel)
  | list xs => exact kit_two (a := "list") (b := "list") (c := "tuple") (x := true) (y := false) (by decide +kernel) (by decide +kernel)
  | tuple xs => exact kit_two (a := "tuple") (b := "list") (c := "tuple") (x := false) (y := true) (by decide +kernel) (by decide +kernel)
  | dict kvs => exact kit_two (a := "dict") (b := "list") (c := "tuple") (x := false) (y := false) (by decide +kernel) (by decide +kernel)
theorem kit_int (d : PyData) : PySem.W.kitOne K (.type (tyName d)) (.type "int") = some (intLike d) := by
  cases d with
  | none => exact kit_ty (a := "NoneType") (b := "int") (r := false) (by decide +kernel)
  | bool b => exact kit_ty (a := "bool") (b := "int") (r := true) (by decide +kernel)
  | int i => exact kit_ty (a := "int") (b := "int") (r := true) (by decide +kernel)
  | str x => exact kit_ty (a := "str") (b := "int") (r := false) (by decide +kernel)
  | list xs => exact kit_ty (a := "list") (b := "int") (r := false) (by decide +kernel)
  | tuple xs => exact kit_ty (a := "tuple") (b := "int") (r := false) (by decide +kernel)
  | dict kvs => exact kit_ty (a := "dict") (b := "int") (r := false) (by decide +kernel)
theorem kit_bool (d : PyData) : PySem.W.kitOne K (.type (tyName d)) (.type "bool") = some (isBoolD d) := by
  cases d with
  | none => exact kit_ty (a := "NoneType") (b := "bool") (r := false) (by decide +kernel)
  | bool b => exact kit_ty (a := "bool") (b := "bool") (r := true) (by decide +kernel)
  | int i => exact kit_ty (a := "int") (b := "bool") (r := false) (by decide +kernel)
  | str x => exact kit_ty (a := "str") (b := "bool") (r := false) (by decide +kernel)
  | list xs => exact kit_ty (a := "list") (b := "bool") (r := false) (by decide +kernel)
  | tuple xs => exact kit_ty (a := "tuple") (b := "bool") (r := false) (by decide +kernel)
  | dict kvs => exact kit_ty (a := "dict") (b := "bool") (r := false) (by decide +kernel)
theorem whole_eq (d : PyData) : (intLike d && !isBoolD d) = isWholeD d := by
  cases d <;> rfl
theorem len2 (n k : Nat) : decide (V.int (n : Int) = V.int (k : Int)) = decide (n = k) := by
  rw [decide_eq_decide]
  constructor
  · intro h
    have := V.int.inj h
    omega
  · intro h
    rw [h]
def isFracDs : List PyData → Bool
  | [.int _, .int b] => decide (0 < b)
  | _ => false
def isFracD (d : PyData) : Bool := match seqD d with
  | some ds => isFracDs ds
  | none => false
def isFormDs : List PyData → Bool
  | [x, y] => isFracD x && isFracD y
  | _ => false
def isFormD (d : PyData) : Bool := match seqD d with
  | some ds => isFormDs ds
  | none => false
/-- d is the fraction q, perhaps not in lowest terms, of bounded size -/
def FracOf (d : PyData) (q : Rat) : Prop := ∃ (n b : Int), seqD d = some [.int n, .int b] ∧ 0 < b ∧ n.natAbs < 2 ^ 240 ∧ b.natAbs < 2 ^ 240 ∧ q = mkRat n b.toNat
def FormOf (d : PyData) (f : Rat × Rat) : Prop := ∃ x y, seqD d = some [x, y] ∧ FracOf x f.1 ∧ FracOf y f.2
theorem FracOf.is {d : PyData} {q : Rat} (h : FracOf d q) : isFracD d = true := by
  obtain ⟨n, b, e, hb, _⟩ := h
  unfold isFracD
  rw [e]
  exact decide_eq_true hb
theorem FormOf.is {d : PyData} {f : Rat × Rat} (h : FormOf d f) : isFormD d = true := by
  obtain ⟨x, y, e, h1, h2⟩ := h
  unfold isFormD
  rw [e]
  show (isFracD x && isFracD y) = true
  rw [h1.is, h2.is]
  rfl
theorem FracOf.sz {d : PyData} {q : Rat} (h : FracOf d q) : KM.Sz 240 q := by
  obtain ⟨n, b, e, hb, h1, h2, rfl⟩ := h
  exact KM.Sz.mk (by omega) h1 (by omega)
theorem FormOf.sz {d : PyData} {f : Rat × Rat} (h : FormOf d f) : SzF 240 f := by
  obtain ⟨x, y, e, h1, h2⟩ := h
  exact ⟨h1.sz, h2.sz⟩
theorem frD_of {q : Rat} (h : KM.Sz 240 q) : FracOf (frD q) q := by
  have := q.den_pos
  exact ⟨q.num, q.den, rfl, by omega, h.1, KM.den_abs h, by rw [Int.toNat_natCast, Rat.mkRat_self]⟩
theorem fmD_of {f : Rat × Rat} (h : SzF 240 f) : FormOf (fmD f) f := ⟨_, _, rfl, frD_of h.1, frD_of h.2⟩
end
section
variable {P : Program} {w : World} {K : PySem.W.Frag} {mg : Str → Option Value} {base : Heap}
def spTest (K : PySem.W.Frag) (g : PyData → Bool) : Sp := fun vs H Q _ => ∃ (v : V) (d : PyData), vs = [v] ∧ Dat K H v d ∧ ∀ H', Same H H' → Q (.bl (g d)) H'
theorem ok_is_list (T : Txt K mg) : FnOk P w K mg base CX0 1 T.is_list.f T.is_list.fd ["thing"] (spTest K isListD) := by
  refine T.is_list.F.ok sc_is_list (fun vs H Q E h => ?_) (fun cdv A outer s H vs Q E hr h => ?_)
  · obtain ⟨v, d, rfl, _⟩ := h
    rfl
  · obtain ⟨v, d, rfl, hd, k⟩ := h
    refine ⟨_, (pss_one (ps_ret (pe_callB call_isiT (by rfl) T.m_isinstance (by decide +kernel) (pa_cons (pv 0) (pa_cons (pe_tup (pa_cons (pe_bltn (v := .ty "list") (by rfl) T.m_list (by decide +kernel) rfl) (pa_cons (pe_bltn (v := .ty "tuple") (by rfl) T.m_tuple (by decide +kernel) rfl) pa_nil))) pa_nil))))), ?_⟩
    exact ⟨_, rfl, sz2, fun tp ntp => ⟨_, tp, _, _, _, _, rfl, upd_same, .cons (.ty _) (.cons (.ty _) .nil), dat_ty (hd.k (same_upd ntp)), kit_list d, k _ (same_upd ntp)⟩⟩
theorem ok_is_whole (T : Txt K mg) : FnOk P w K mg base CX0 1 T.is_whole.f T.is_whole.fd ["thing"] (spTest K isWholeD) := by
  refine T.is_whole.F.ok sc_is_whole (fun vs H Q E h => ?_) (fun cdv A outer s H vs Q E hr h => ?_)
  · obtain ⟨v, d, rfl, _⟩ := h
    rfl
  · obtain ⟨v, d, rfl, hd, k⟩ := h
    refine ⟨_, (pss_one (ps_ret (pe_and (pe_callB call_isi (by rfl) T.m_isinstance (by decide +kernel) (pa_cons (pv 0) (pa_cons (pe_bltn (v := .ty "int") (by rfl) T.m_int (by decide +kernel) rfl) pa_nil))) (pe_one (pe_not (pe_callB call_isi (by rfl) T.m_isinstance (by decide +kernel) (pa_cons (pv 0) (pa_cons (pe_bltn (v := .ty "bool") (by rfl) T.m_bool (by decide +kernel) rfl) pa_nil)))))))), ?_⟩
    refine ⟨_, rfl, _, _, _, _, _, rfl, .ty _, dat_ty hd, kit_int d, _, rfl, ?_⟩
    have e := whole_eq d
    have k := k H (Same.refl H)
    rw [← e] at k
    refine ite2 (fun hc => ?_) (fun hc => ?_)
    · rw [hc, Bool.true_and] at k
      exact ⟨_, rfl, _, _, _, _, _, rfl, .ty _, dat_ty hd, kit_bool d, _, rfl, k⟩
    · rw [show intLike d = false from by simpa using hc, Bool.false_and] at k
      exact k
theorem not_two {ds : List PyData} (h : ¬ ds.length = 2) : isFracDs ds = false ∧ isFormDs ds = false := by
  match ds, h with
  | [], _ => exact ⟨rfl, rfl⟩
  | [x], _ => exact ⟨by cases x <;> rfl, rfl⟩
  | [_, _], h => exact absurd rfl h
  | x :: y :: _ :: _, _ => exact ⟨by cases x <;> cases y <;> rfl, rfl⟩
theorem two_of {α : Type} {ds : List α} (h : ds.length = 2) : ∃ x y, ds = [x, y] := by
  match ds, h with
  | [x, y], _ => exact ⟨x, y, rfl⟩
theorem frac_two (x y : PyData) : isFracDs [x, y] = (isWholeD x && (isWholeD y && match y with | .int b => decide (0 < b) | _ => false)) := by
  cases x <;> cases y <;> rfl
theorem ok_is_frac (T : Txt K mg) : FnOk P w K mg base CX0 2 T.is_frac.f T.is_frac.fd ["thing"] (spTest K isFracD) := by
  refine T.is_frac.F.ok sc_is_frac (fun vs H Q E h => ?_) (fun cdv A outer s H vs Q E hr h => ?_)
  · obtain ⟨v, d, rfl, _⟩ := h
    rfl
  · obtain ⟨v, d, rfl, hd, k⟩ := h
    refine ⟨_, (pss_one (ps_ret (pe_and (pe_call (ok_is_list T) (hr.mono (by decide)) (by rfl) T.is_list.g T.is_list.F.kp T.is_list.b .nil pass0 (pa_cons (pv 0) pa_nil)) (pe_and (pe_cmpR op_eq (pe_callB call_len_seq (by rfl) T.m_len PySem.boot_len (pa_cons (pv 0) pa_nil)) pe_int (nomark _)) (pe_and (pe_call (ok_is_whole T) (hr.mono (by decide)) (by rfl) T.is_whole.g T.is_whole.F.kp T.is_whole.b .nil pass0 (pa_cons (pe_ix ix_seq (pv 0) pe_int (fun _ _ => rfl)) pa_nil)) (pe_and (pe_call (ok_is_whole T) (hr.mono (by decide)) (by rfl) T.is_whole.g T.is_whole.F.kp T.is_whole.b .nil pass0 (pa_cons (pe_ix ix_seq (pv 0) pe_int (fun _ _ => rfl)) pa_nil)) (pe_one (pe_cmpR op_gt (pe_ix ix_seq (pv 0) pe_int (fun _ _ => rfl)) pe_int (nomark _))))))))), ?_⟩
    refine ⟨_, rfl, _, _, rfl, hd, fun H1 s1 => ?_⟩
    unfold isFracD at k
    unfold isListD
    cases e : seqD d with
    | none =>
      rw [e] at k
      exact ⟨_, rfl, iteF (k H1 s1)⟩
    | some ds =>
      rw [e] at k
      have k : ∀ H', Same H H' → Q (V.bl (isFracDs ds)) H' := k
      refine ⟨_, rfl, iteT ?_⟩
      obtain ⟨a, xs, rfl, hx, hall⟩ := dat_seq (hd.k s1) e
      have el : xs.length = ds.length := hall.length
      refine ⟨_, rfl, _, _, rfl, hx, rfl, _, rfl, ?_⟩
      rw [show (V.int 2) = V.int ((2 : Nat) : Int) from rfl, len2, el]
      refine ite2 (fun hc => ?_) (fun hc => ?_)
      · obtain ⟨x, y, rfl⟩ := two_of (of_decide_eq_true hc)
        cases hall with
        | cons dx t =>
          cases t with
          | cons dy t =>
            cases t
            have k := fun H' s' => (frac_two x y) ▸ k H' s'
            refine ⟨_, rfl, ix_at hx rfl ⟨_, _, rfl, dx, fun H2 s2 => ⟨_, rfl, ?_⟩⟩⟩
            refine ite2 (fun hc => ?_) (fun hc => ?_)
            · rw [hc] at k
              refine ⟨_, rfl, ix_at (hx.keep s2) rfl ⟨_, _, rfl, dy.k s2, fun H3 s3 => ⟨_, rfl, ?_⟩⟩⟩
              refine ite2 (fun hc => ?_) (fun hc => ?_)
              · rw [hc] at k
                obtain ⟨b, rfl⟩ : ∃ b, y = .int b := by
                  cases y <;> first | exact ⟨_, rfl⟩ | cases hc
                cases dy
                exact ⟨_, rfl, ix_at (hx.keep (s2.trans s3)) rfl ⟨_, _, rfl, rfl, k H3 (s1.trans (s2.trans s3))⟩⟩
              · rw [show isWholeD y = false from by simpa using hc] at k
                exact k H3 (s1.trans (s2.trans s3))
            · rw [show isWholeD x = false from by simpa using hc] at k
              exact k H2 (s1.trans s2)
      · have := (not_two (ds := ds) (fun z => hc (decide_eq_true z))).1
        rw [this] at k
        exact k H1 s1
def spFracOf (K : PySem.W.Frag) : Sp := fun vs H Q _ => ∃ (v : V) (d : PyData) (q : Rat), vs = [v] ∧ Dat K H v d ∧ FracOf d q ∧ ∀ p, H p = none → Q (.ref p) (upd H p (.tup (frV q)))
theorem pw240 {a : Nat} (h : a < 2 ^ 240) : a < 2 ^ 8500 := Nat.lt_of_lt_of_le h (Nat.pow_le_pow_right (by decide) (by decide))
theorem ok_frac_of (T : Txt K mg) : FnOk P w K mg base CX0 2 T.frac_of.f T.frac_of.fd ["thing"] (spFracOf K) := by
  refine T.frac_of.F.ok sc_frac_of (fun vs H Q E h => ?_) (fun cdv A outer s H vs Q E hr h => ?_)
  · obtain ⟨v, d, q, rfl, _⟩ := h
    rfl
  · obtain ⟨v, d, q, rfl, hd, ⟨n, b, e, hb, h1, h2, rfl⟩, k⟩ := h
    refine ⟨_, (pss_one (ps_ret (pe_call (ok_lowest T) (hr.mono (by decide)) (by rfl) T.lowest.g T.lowest.F.kp T.lowest.b .nil pass0 (pa_cons (pe_ix ix_seq (pv 0) pe_int (fun _ _ => rfl)) (pa_cons (pe_ix ix_seq (pv 0) pe_int (fun _ _ => rfl)) pa_nil))))), ?_⟩
    obtain ⟨a, xs, rfl, hx, hall⟩ := dat_seq hd e
    cases hall with
    | cons dx t =>
      cases t with
      | cons dy t =>
        cases t
        cases dx
        cases dy
        exact ⟨_, rfl, ix_at hx rfl ⟨_, rfl, ix_at hx rfl ⟨_, _, rfl, hb, pw240 h1, pw240 h2, k⟩⟩⟩
theorem ok_is_form (T : Txt K mg) : FnOk P w K mg base CX0 3 T.is_form.f T.is_form.fd ["thing"] (spTest K isFormD) := by
  refine T.is_form.F.ok sc_is_form (fun vs H Q E h => ?_) (fun cdv A outer s H vs Q E hr h => ?_)
  · obtain ⟨v, d, rfl, _⟩ := h
    rfl
  · obtain ⟨v, d, rfl, hd, k⟩ := h
    refine ⟨_, (pss_one (ps_ret (pe_and (pe_call (ok_is_list T) (hr.mono (by decide)) (by rfl) T.is_list.g T.is_list.F.kp T.is_list.b .nil pass0 (pa_cons (pv 0) pa_nil)) (pe_and (pe_cmpR op_eq (pe_callB call_len_seq (by rfl) T.m_len PySem.boot_len (pa_cons (pv 0) pa_nil)) pe_int (nomark _)) (pe_and (pe_call (ok_is_frac T) (hr.mono (by decide)) (by rfl) T.is_frac.g T.is_frac.F.kp T.is_frac.b .nil pass0 (pa_cons (pe_ix ix_seq (pv 0) pe_int (fun _ _ => rfl)) pa_nil)) (pe_one (pe_call (ok_is_frac T) (hr.mono (by decide)) (by rfl) T.is_frac.g T.is_frac.F.kp T.is_frac.b .nil pass0 (pa_cons (pe_ix ix_seq (pv 0) pe_int (fun _ _ => rfl)) pa_nil)))))))), ?_⟩
    refine ⟨_, rfl, _, _, rfl, hd, fun H1 s1 => ?_⟩
    unfold isFormD at k
    unfold isListD
    cases e : seqD d with
    | none =>
      rw [e] at k
      exact ⟨_, rfl, iteF (k H1 s1)⟩
    | some ds =>
      rw [e] at k
      have k : ∀ H', Same H H' → Q (V.bl (isFormDs ds)) H' := k
      refine ⟨_, rfl, iteT ?_⟩
      obtain ⟨a, xs, rfl, hx, hall⟩ := dat_seq (hd.k s1) e
      have el : xs.length = ds.length := hall.length
      refine ⟨_, rfl, _, _, rfl, hx, rfl, _, rfl, ?_⟩
      rw [show (V.int 2) = V.int ((2 : Nat) : Int) from rfl, len2, el]
      refine ite2 (fun hc => ?_) (fun hc => ?_)
      · obtain ⟨x, y, rfl⟩ := two_of (of_decide_eq_true hc)
        cases hall with
        | cons dx t =>
          cases t with
          | cons dy t =>
            cases t
            have k : ∀ H', Same H H' → Q (V.bl (isFracD x && isFracD y)) H' := k
            refine ⟨_, rfl, ix_at hx rfl ⟨_, _, rfl, dx, fun H2 s2 => ⟨_, rfl, ?_⟩⟩⟩
            refine ite2 (fun hc => ?_) (fun hc => ?_)
            · rw [hc] at k
              exact ⟨_, rfl, ix_at (hx.keep s2) rfl ⟨_, _, rfl, dy.k s2, fun H3 s3 => k H3 (s1.trans (s2.trans s3))⟩⟩
            · rw [show isFracD x = false from by simpa using hc] at k
              exact k H2 (s1.trans s2)
      · have := (not_two (ds := ds) (fun z => hc (decide_eq_true z))).2
        rw [this] at k
        exact k H1 s1
/-- a fraction from 0 on -/
def spWidth (K : PySem.W.Frag) : Sp := fun vs H Q _ => ∃ (v : V) (q : Rat), vs = [v] ∧ Fr K H v q ∧ ∀ H', Same H H' → Q (.bl (decide (0 ≤ q))) H'
theorem nonneg_num (q : Rat) : decide ((0 : Int) ≤ q.num) = decide (0 ≤ q) := by
  rw [decide_eq_decide]
  exact Rat.num_nonneg
theorem frac_frD (q : Rat) : isFracD (frD q) = true := by
  have := q.den_pos
  show decide ((0 : Int) < ((q.den : Nat) : Int)) = true
  exact decide_eq_true (by omega)
theorem ok_is_width (T : Txt K mg) : FnOk P w K mg base CX0 3 T.is_width.f T.is_width.fd ["thing"] (spWidth K) := by
  refine T.is_width.F.ok sc_is_width (fun vs H Q E h => ?_) (fun cdv A outer s H vs Q E hr h => ?_)
  · obtain ⟨v, d, rfl, _⟩ := h
    rfl
  · obtain ⟨v, q, rfl, hd, k⟩ := h
    refine ⟨_, (pss_one (ps_ret (pe_and (pe_call (ok_is_frac T) (hr.mono (by decide)) (by rfl) T.is_frac.g T.is_frac.F.kp T.is_frac.b .nil pass0 (pa_cons (pv 0) pa_nil)) (pe_one (pe_cmpR op_ge (pe_ix ix_tup (pv 0) pe_int (fun _ _ => rfl)) pe_int (nomark _)))))), ?_⟩
    refine ⟨_, rfl, _, _, rfl, fr_dat hd, fun H1 s1 => ⟨_, rfl, ?_⟩⟩
    rw [frac_frD]
    refine iteT ?_
    obtain ⟨p, rfl, hp⟩ := hd.keep (.of s1)
    refine ⟨_, rfl, _, _, _, _, rfl, rfl, hp, rfl, _, _, rfl, rfl, ?_⟩
    show Q (V.bl (decide ((0 : Int) ≤ q.num))) H1
    rw [nonneg_num]
    exact k H1 s1
/-- (low, c, high, d) with low from 0 on -/
def spStr (K : PySem.W.Frag) : Sp := fun vs H Q _ => ∃ (p : Addr) (a h : V) (c d : Bool) (lo : Rat) (hi : Option Rat), vs = [.ref p] ∧ SqT K H p [a, .bl c, h, .bl d] ∧ Fr K H a lo ∧ OptFr K H h hi ∧ 0 ≤ lo ∧
  KM.Sz 4000 lo ∧ (∀ x, hi = some x → KM.Sz 4000 x) ∧ ∀ H', Same H H' → Q (.bl (KM.isStr lo c hi d)) H'
theorem ok_is_stretch (T : Txt K mg) : FnOk P w K mg base CX0 4 T.is_stretch.f T.is_stretch.fd ["thing"] (spStr K) := by
  refine T.is_stretch.F.ok sc_is_stretch (fun vs H Q E h => ?_) (fun cdv A outer s H vs Q E hr h => ?_)
  · obtain ⟨p, a, h, c, d, lo, hi, rfl, _⟩ := h
    rfl
  · obtain ⟨p, a, h, c, d, lo, hi, rfl, hp, ha, hh, h0, sl, sh, k⟩ := h
    refine ⟨_, (pss_cons (ps_if (PW.pt (pw_or (pt_not (pt_val (pe_call (ok_is_list T) (hr.mono (by decide)) (by rfl) T.is_list.g T.is_list.F.kp T.is_list.b .nil pass0 (pa_cons (pv 0) pa_nil)))) (pw_or (pt_cmpR op_ne (pe_callB call_len_seq (by rfl) T.m_len PySem.boot_len (pa_cons (pv 0) pa_nil)) pe_int (nomark _)) (pw_or1 (pt_not (pt_val (pe_call (ok_is_width T) (hr.mono (by decide)) (by rfl) T.is_width.g T.is_width.F.kp T.is_width.b .nil pass0 (pa_cons (pe_ix ix_tup (pv 0) pe_int (fun _ _ => rfl)) pa_nil)))))))) (pss_one (ps_ret pe_bl)) pss_nil)
      (pss_cons (ps_if (PW.pt (pw_or (pt_not (pt_val (pe_callB call_isi (by rfl) T.m_isinstance (by decide +kernel) (pa_cons (pe_ix ix_tup (pv 0) pe_int (fun _ _ => rfl)) (pa_cons (pe_bltn (v := .ty "bool") (by rfl) T.m_bool (by decide +kernel) rfl) pa_nil))))) (pw_or1 (pt_not (pt_val (pe_callB call_isi (by rfl) T.m_isinstance (by decide +kernel) (pa_cons (pe_ix ix_tup (pv 0) pe_int (fun _ _ => rfl)) (pa_cons (pe_bltn (v := .ty "bool") (by rfl) T.m_bool (by decide +kernel) rfl) pa_nil)))))))) (pss_one (ps_ret pe_bl)) pss_nil)
      (pss_cons (ps_if (pt_cmpR op_isN (pe_ix ix_tup (pv 0) pe_int (fun _ _ => rfl)) pe_non (nomark _)) (pss_one (ps_ret (pe_not (pe_ix ix_tup (pv 0) pe_int (fun _ _ => rfl))))) pss_nil)
      (pss_cons (ps_if (pt_not (pt_val (pe_call (ok_is_width T) (hr.mono (by decide)) (by rfl) T.is_width.g T.is_width.F.kp T.is_width.b .nil pass0 (pa_cons (pe_ix ix_tup (pv 0) pe_int (fun _ _ => rfl)) pa_nil)))) (pss_one (ps_ret pe_bl)) pss_nil)
      (pss_one (ps_ret (pe_or (pe_call (ok_is_less T) (hr.mono (by decide)) (by rfl) T.is_less.g T.is_less.F.kp T.is_less.b .nil pass0 (pa_cons (pe_ix ix_tup (pv 0) pe_int (fun _ _ => rfl)) (pa_cons (pe_ix ix_tup (pv 0) pe_int (fun _ _ => rfl)) pa_nil))) (pe_one (pe_and (pe_call (ok_is_upto T) (hr.mono (by decide)) (by rfl) T.is_upto.g T.is_upto.F.kp T.is_upto.b .nil pass0 (pa_cons (pe_ix ix_tup (pv 0) pe_int (fun _ _ => rfl)) (pa_cons (pe_ix ix_tup (pv 0) pe_int (fun _ _ => rfl)) pa_nil))) (pe_and (pe_ix ix_tup (pv 0) pe_int (fun _ _ => rfl)) (pe_one (pe_ix ix_tup (pv 0) pe_int (fun _ _ => rfl))))))))))))), ?_⟩
    have hdat : ∃ dh, Dat K H h dh := by
      cases hi with
      | none =>
        obtain rfl : h = .non := hh
        exact ⟨_, .non⟩
      | some x => exact ⟨_, fr_dat hh⟩
    obtain ⟨dh, hdh⟩ := hdat
    refine ⟨_, rfl, _, _, rfl, .tup hp (.cons (fr_dat ha) (.cons (.bl c) (.cons hdh (.cons (.bl d) .nil)))), fun H1 s1 => ⟨_, rfl, iteF ?_⟩⟩
    have hp1 := s1.sqT hp
    refine ⟨_, rfl, _, _, rfl, .inr hp1, rfl, _, rfl, iteF ?_⟩
    refine ⟨_, rfl, _, _, _, _, rfl, rfl, hp1, rfl, _, _, rfl, ha.keep (.of s1), fun H2 s2 => ⟨_, rfl, ?_⟩⟩
    rw [decide_eq_true h0]
    refine iteF ?_
    have hp2 := s2.sqT hp1
    refine ⟨_, rfl, _, _, _, _, rfl, rfl, hp2, rfl, _, _, _, _, _, rfl, .ty _, .base (.bl c), kit_ty (r := true) (by decide +kernel), _, rfl, iteF ?_⟩
    refine ⟨_, rfl, _, _, _, _, rfl, rfl, hp2, rfl, _, _, _, _, _, rfl, .ty _, .base (.bl d), kit_ty (r := true) (by decide +kernel), _, rfl, iteF ?_⟩
    refine ⟨_, rfl, _, _, _, _, rfl, rfl, hp2, rfl, rfl, _, rfl, ?_⟩
    have s12 := s1.trans s2
    cases hi with
    | none =>
      obtain rfl : h = .non := hh
      exact iteT ⟨_, rfl, _, _, _, _, rfl, rfl, hp2, rfl, _, rfl, k _ s12⟩
    | some x =>
      obtain ⟨ph, rfl, hph⟩ := id hh
      refine iteF ?_
      refine ⟨_, rfl, _, _, _, _, rfl, rfl, hp2, rfl, _, _, rfl, Fr.keep (.of s12) hh, fun H3 s3 => ⟨_, rfl, ?_⟩⟩
      have k : ∀ H', Same H H' → Q (V.bl (decide (0 ≤ x) && (decide (lo < x) || (decide (lo ≤ x) && c && d)))) H' := k
      have hp3 := s3.sqT hp2
      have s13 := s12.trans s3
      by_cases hx : 0 ≤ x
      · rw [decide_eq_true hx] at k ⊢
        refine iteF ?_
        refine ⟨_, rfl, _, _, _, _, rfl, rfl, hp3, rfl, _, rfl, _, _, _, _, rfl, rfl, hp3, rfl, _, _, _, _, rfl, ha.keep (.of s13), Fr.keep (.of s13) hh, sl, sh x rfl, _, rfl, ?_⟩
        refine ite2 (fun hc => ?_) (fun hc => ?_)
        · rw [show decide (lo < x) = true from hc] at k
          exact k _ s13
        · rw [show decide (lo < x) = false from by simpa using hc] at k
          refine ⟨_, rfl, _, _, _, _, rfl, rfl, hp3, rfl, _, rfl, _, _, _, _, rfl, rfl, hp3, rfl, _, _, _, _, rfl, ha.keep (.of s13), Fr.keep (.of s13) hh, sl, sh x rfl, _, rfl, ?_⟩
          refine ite2 (fun hc => ?_) (fun hc => ?_)
          · rw [show decide (lo ≤ x) = true from hc] at k
            refine ⟨_, rfl, _, _, _, _, rfl, rfl, hp3, rfl, _, rfl, ?_⟩
            refine ite2 (fun hc => ?_) (fun hc => ?_)
            · rw [hc] at k
              exact ⟨_, rfl, _, _, _, _, rfl, rfl, hp3, rfl, k _ s13⟩
            · rw [show c = false from by simpa using hc] at k
              exact k _ s13
          · rw [show decide (lo ≤ x) = false from by simpa using hc] at k
            exact k _ s13
      · rw [decide_eq_false hx] at k ⊢
        exact iteT (k _ s13)
end
end KX
set_option Elab.async false
set_option linter.all false
set_option maxRecDepth 100000
set_option maxHeartbeats 4000000
set_option exponentiation.threshold 20000
namespace KX
open PySem PySem.Spec PyProof.Rows L2
theorem sz1L : 1 ≤ sizeLine := by decide
/-- v is the stretch s -/
def StV (K : PySem.W.Frag) (H : Hp) (v : V) (s : KM.Str4) : Prop := ∃ p a h, v = .ref p ∧ SqT K H p [a, .bl s.2.1, h, .bl s.2.2.2] ∧ Fr K H a s.1 ∧ OptFr K H h s.2.2.1
theorem StV.keep {K : PySem.W.Frag} {H H' : Hp} {v : V} {s : KM.Str4} (e : Tups H H') (h : StV K H v s) : StV K H' v s := by
  obtain ⟨p, a, h, rfl, h1, h2, h3⟩ := h
  exact ⟨p, a, h, rfl, e.sqT h1, h2.keep e, h3.keep e⟩
theorem num_eq0 (q : Rat) : decide (V.int q.num = V.int 0) = decide (q = 0) := by
  rw [decide_eq_decide]
  constructor
  · intro h
    exact KM.num_zero_iff.mp (V.int.inj h)
  · intro h
    rw [KM.num_zero_iff.mpr h]
theorem num_lt0 (q : Rat) : decide (q.num < 0) = decide (q < 0) := by
  rw [decide_eq_decide]
  exact KM.num_neg_iff
theorem num_gt0 (q : Rat) : decide (0 < q.num) = decide (0 < q) := by
  rw [decide_eq_decide]
  exact KM.num_pos_iff
section
variable {P : Program} {w : World} {K : PySem.W.Frag} {mg : Str → Option Value} {base : Heap}
/-- a list of stretches, new -/
def QStr (K : PySem.W.Frag) (H : Hp) (Q : VK) (ss : List KM.Str4) : Prop := ∀ r H' ys, Same H H' → H r = none → H' r = some (.lst ys) → Paired (StV K H') ys ss → Q (.ref r) H'
def spUpZero (K : PySem.W.Frag) : Sp := fun vs H Q _ => ∃ (a : V) (b : Bool) (f : Rat × Rat), vs = [a, .bl b] ∧ FmV K H a f ∧ SzF 1000 f ∧ QStr K H Q (KM.upZero f b)
theorem all_st (T : Txt K mg) {H : Hp} : StV K H (.ref T.ALL_WIDTHS.f) KM.allW := by
  obtain ⟨z, h1, h2⟩ := T.all_at
  exact ⟨_, _, _, rfl, sqT_none h1, ⟨z, rfl, sqT_none h2⟩, rfl⟩
theorem zero_fr (T : Txt K mg) {H : Hp} : Fr K H (.ref T.ZERO.f) 0 := ⟨_, rfl, sqT_none T.zero_at⟩
theorem ok_upto_zero (T : Txt K mg) : FnOk P w K mg base CX0 5 T.upto_zero.f T.upto_zero.fd ["form", "is_below"] (spUpZero K) := by
  refine T.upto_zero.F.ok sc_upto_zero (fun vs H Q E h => ?_) (fun cdv A outer s H vs Q E hr h => ?_)
  · obtain ⟨a, b, f, rfl, _⟩ := h
    rfl
  · obtain ⟨_, b, f, rfl, ⟨p, a1, a2, rfl, hp, ha1, ha2⟩, ⟨sf1, sf2⟩, k⟩ := h
    refine ⟨_, (pss_cons (ps_if (pt_cmpR op_eq (pe_ix ix_tup (pe_ix ix_tup (pv 0) pe_int (fun _ _ => rfl)) pe_int (fun _ _ => rfl)) pe_int (nomark _)) (pss_one (ps_ret (pe_ifExp (PW.pt (pw_or (pt_cmpR op_lt (pe_ix ix_tup (pe_ix ix_tup (pv 0) pe_int (fun _ _ => rfl)) pe_int (fun _ _ => rfl)) pe_int (nomark _)) (pw_or1 (PW.pt (pw_and (pt_cmpR op_eq (pe_ix ix_tup (pe_ix ix_tup (pv 0) pe_int (fun _ _ => rfl)) pe_int (fun _ _ => rfl)) pe_int (nomark _)) (pw_and1 (pt_not (pt_val (pv 1))))))))) (pe_lst (pa_cons (pe_cn (by rfl) T.ALL_WIDTHS.g) pa_nil)) (pe_lst pa_nil)))) pss_nil)
      (pss_cons (ps_set (i := 2) sc_upto_zero.nd rfl (Or.inl rfl) (pe_call (ok_over T) (hr.mono (by decide)) (by rfl) T.over.g T.over.F.kp T.over.b .nil pass0 (pa_cons (pe_call (ok_minus T) (hr.mono (by decide)) (by rfl) T.minus.g T.minus.F.kp T.minus.b .nil pass0 (pa_cons (pe_cn (by rfl) T.ZERO.g) (pa_cons (pe_ix ix_tup (pv 0) pe_int (fun _ _ => rfl)) pa_nil))) (pa_cons (pe_ix ix_tup (pv 0) pe_int (fun _ _ => rfl)) pa_nil))))
      (pss_cons (ps_if (pt_cmpR op_gt (pe_ix ix_tup (pe_ix ix_tup (pv 0) pe_int (fun _ _ => rfl)) pe_int (fun _ _ => rfl)) pe_int (nomark _)) (pss_cons (ps_set (i := 3) sc_upto_zero.nd rfl (Or.inl rfl) (pe_tup (pa_cons (pe_cn (by rfl) T.ZERO.g) (pa_cons pe_bl (pa_cons (pv 2) (pa_cons (pe_not (pv 1)) pa_nil))))))
      (pss_one (ps_ret (pe_ifExp (pt_val (pe_call (ok_is_stretch T) (hr.mono (by decide)) (by rfl) T.is_stretch.g T.is_stretch.F.kp T.is_stretch.b .nil pass0 (pa_cons (pv 3) pa_nil))) (pe_lst (pa_cons (pv 3) pa_nil)) (pe_lst pa_nil))))) pss_nil)
      (pss_one (ps_ret (pe_ifExp (pt_val (pe_call (ok_is_less T) (hr.mono (by decide)) (by rfl) T.is_less.g T.is_less.F.kp T.is_less.b .nil pass0 (pa_cons (pv 2) (pa_cons (pe_cn (by rfl) T.ZERO.g) pa_nil)))) (pe_lst (pa_cons (pe_cn (by rfl) T.ALL_WIDTHS.g) pa_nil)) (pe_lst (pa_cons (pe_tup (pa_cons (pv 2) (pa_cons (pe_not (pv 1)) (pa_cons pe_non (pa_cons pe_bl pa_nil))))) pa_nil)))))))), ?_⟩
    obtain ⟨q1, rfl, hq1⟩ := id ha1
    obtain ⟨q2, rfl, hq2⟩ := id ha2
    have kAll : KM.upZero f b = [KM.allW] → ∀ H1, Same H H1 → ∀ r, H1 r = none → Q (.ref r) (upd H1 r (.lst [.ref T.ALL_WIDTHS.f])) := fun e H1 s1 r nr =>
      k r _ _ (s1.trans (same_upd nr)) (s1.free nr) upd_same (by rw [e]; exact Paired.one (all_st T))
    have kNil : KM.upZero f b = [] → ∀ H1, Same H H1 → ∀ r, H1 r = none → Q (.ref r) (upd H1 r (.lst [])) := fun e H1 s1 r nr =>
      k r _ _ (s1.trans (same_upd nr)) (s1.free nr) upd_same (by rw [e]; exact .nil)
    refine ⟨_, rfl, _, _, _, _, rfl, rfl, hp, rfl, _, _, _, _, rfl, rfl, hq2, rfl, rfl, _, rfl, ?_⟩
    rw [num_eq0]
    refine ite2 (fun hc => ?_) (fun hc => ?_)
    · have h2 : f.2 = 0 := of_decide_eq_true hc
      refine ⟨_, rfl, _, _, _, _, rfl, rfl, hp, rfl, _, _, _, _, rfl, rfl, hq1, rfl, _, _, rfl, rfl, _, rfl, ?_⟩
      show if decide (f.1.num < 0) = true then _ else _
      rw [num_lt0]
      refine ite2 (fun hc => ?_) (fun hc => ?_)
      · have h1 : f.1 < 0 := of_decide_eq_true hc
        refine iteT ⟨sz1L, kAll ?_ _ (Same.refl H)⟩
        unfold KM.upZero
        rw [if_pos h2, if_pos (.inl h1)]
      · have h1 : ¬ f.1 < 0 := fun z => hc (decide_eq_true z)
        refine ⟨_, rfl, _, _, _, _, rfl, rfl, hp, rfl, _, _, _, _, rfl, rfl, hq1, rfl, rfl, _, rfl, ?_⟩
        rw [num_eq0]
        refine ite2 (fun hc => ?_) (fun hc => ?_)
        · have h0 : f.1 = 0 := of_decide_eq_true hc
          refine ⟨_, rfl, _, rfl, ?_⟩
          cases b with
          | false =>
            refine iteT ⟨sz1L, kAll ?_ _ (Same.refl H)⟩
            unfold KM.upZero
            rw [if_pos h2, if_pos (.inr ⟨h0, rfl⟩)]
          | true =>
            refine iteF ⟨by decide, kNil ?_ _ (Same.refl H)⟩
            unfold KM.upZero
            rw [if_pos h2, if_neg (by rintro (z | ⟨_, z⟩); exact h1 z; cases z)]
        · have h0 : ¬ f.1 = 0 := fun z => hc (decide_eq_true z)
          refine iteF ⟨by decide, kNil ?_ _ (Same.refl H)⟩
          unfold KM.upZero
          rw [if_pos h2, if_neg (by rintro (z | ⟨z, _⟩); exact h1 z; exact h0 z)]
    · have h2 : ¬ f.2 = 0 := fun z => hc (decide_eq_true z)
      refine ⟨_, rfl, _, _, _, _, rfl, rfl, hp, rfl, _, _, _, _, rfl, zero_fr T, ha1, KM.Sz.zero (by decide), sf1.mono (by decide), fun r1 n1 => ?_⟩
      have s1 := same_upd (o := .tup (frV (0 - f.1))) n1
      have sz1 : KM.Sz 1002 (0 - f.1) := (KM.Sz.sub (KM.Sz.zero (n := 1) (by decide)) sf1)
      refine ⟨_, rfl, _, _, _, _, rfl, rfl, s1.sqT hp, rfl, _, _, _, _, rfl, Fr.new, ha2.keep (.of s1), sz1.mono (by decide), sf2.mono (by decide), h2, fun r2 n2 => ?_⟩
      have s2 := s1.trans (same_upd (o := .tup (frV ((0 - f.1) / f.2))) n2)
      have hroot : Fr K (upd (upd H r1 (.tup (frV (0 - f.1)))) r2 (.tup (frV ((0 - f.1) / f.2)))) (.ref r2) ((0 - f.1) / f.2) := Fr.new
      have szr : KM.Sz 4000 ((0 - f.1) / f.2) := (sz1.div sf2 h2).mono (by decide)
      generalize upd (upd H r1 (.tup (frV (0 - f.1)))) r2 (.tup (frV ((0 - f.1) / f.2))) = H2 at s2 hroot
      refine ⟨_, rfl, _, _, _, _, rfl, rfl, s2.sqT hp, rfl, _, _, _, _, rfl, rfl, s2.sqT hq2, rfl, _, _, rfl, rfl, _, rfl, ?_⟩
      show if decide (0 < f.2.num) = true then _ else _
      rw [num_gt0]
      refine ite2 (fun hc => ?_) (fun hc => ?_)
      · have h3 : 0 < f.2 := of_decide_eq_true hc
        refine ⟨_, rfl, _, rfl, _, rfl, sz4, fun t nt => ?_⟩
        have s3 := same_upd (o := .tup [V.ref T.ZERO.f, V.bl true, V.ref r2, V.bl (!b)]) nt
        refine ⟨_, rfl, t, _, _, true, !b, 0, some ((0 - f.1) / f.2), rfl, .inl (.inl upd_same), zero_fr T, hroot.keep (.of s3), Rat.le_refl, KM.Sz.zero (by decide), fun x e => by cases e; exact szr, fun H4 s4 => ⟨_, rfl, ?_⟩⟩
        refine ite2 (fun hc => ?_) (fun hc => ?_)
        · refine ⟨_, rfl, sz1L, fun r nr => ?_⟩
          have s5 := same_upd (o := .lst [V.ref t]) nr
          refine k r _ _ (s2.trans (s3.trans (s4.trans s5))) ((s2.trans (s3.trans s4)).free nr) upd_same ?_
          unfold KM.upZero
          rw [if_neg h2, if_pos h3, if_pos hc]
          exact Paired.one ⟨t, _, _, rfl, (s4.trans s5).sqT (.inl (.inl upd_same)), zero_fr T, hroot.keep (.of (s3.trans (s4.trans s5)))⟩
        · refine ⟨by decide, kNil ?_ _ (s2.trans (s3.trans s4))⟩
          unfold KM.upZero
          rw [if_neg h2, if_pos h3, if_neg hc]
      · have h3 : ¬ 0 < f.2 := fun z => hc (decide_eq_true z)
        refine ⟨_, rfl, _, _, _, _, rfl, hroot, zero_fr T, szr, KM.Sz.zero (by decide), _, rfl, ?_⟩
        refine ite2 (fun hc => ?_) (fun hc => ?_)
        · refine ⟨sz1L, kAll ?_ _ s2⟩
          unfold KM.upZero
          rw [if_neg h2, if_neg h3, if_pos (of_decide_eq_true hc)]
        · refine ⟨_, rfl, _, rfl, _, rfl, sz4, fun t nt => ⟨sz1L, fun r nr => ?_⟩⟩
          have s3 := same_upd (o := .tup [V.ref r2, V.bl (!b), V.non, V.bl false]) nt
          have s5 := same_upd (o := .lst [V.ref t]) nr
          refine k r _ _ (s2.trans (s3.trans s5)) ((s2.trans s3).free nr) upd_same ?_
          unfold KM.upZero
          rw [if_neg h2, if_neg h3, if_neg (fun z => hc (decide_eq_true z))]
          exact Paired.one ⟨t, _, _, rfl, s5.sqT (.inl (.inl upd_same)), hroot.keep (.of (s3.trans s5)), rfl⟩
end
end KX
set_option Elab.async false
set_option linter.all false
set_option maxRecDepth 100000
set_option maxHeartbeats 4000000
namespace KX
open PySem PySem.Spec PyProof.Rows L2
/-! ### enumerate of a tuple -/
def IteT (K : PySem.W.Frag) (a : Addr) : It :=
  ⟨fun i H => ∃ (xs : List V) (x : V), SqT K H a xs ∧ xs[i]? = some x, fun i H v H' => ∃ T x, v = .ref T ∧ H T = none ∧ H' = upd H T (.tup [.int (i : Nat), x]) ∧ ∀ xs, SqT K H a xs → xs[i]? = some x, fun i H => ∃ xs : List V, SqT K H a xs ∧ xs.length ≤ i⟩
theorem enum_ne {h : Heap} {e it a : Addr} {c : Int} {old : Value} {items : Array Value} (he : IsEnum h e it c old) (p : h.IsTuple a items) : e ≠ a := fun z => by
  obtain ⟨o, ho, hc, _⟩ := p
  rw [← z] at ho
  have q : h.get? e = some _ := he
  rw [q] at ho
  cases ho
  exact absurd (Value.type.inj hc) (by decide)
theorem turn_enumT {P : Program} {w : World} {K : PySem.W.Frag} {elts : List Expr} {kk : Nat} {tpos : Pos} (a e it : Addr) :
    Turn P w K (.Tuple elts kk tpos) (IteT K a) [e, it] e (fun i h => (∃ old, IsEnum h e it ((i : Nat) : Int) old) ∧ h.IsTupleIter it a i ∧ e ≠ it) where
  mem := by simp
  obj := fun i h st b hb => by
    obtain ⟨⟨old, he⟩, ⟨o, ho, hc, hd⟩, _⟩ := st
    have e' : b = e ∨ b = it := by simpa using hb
    rcases e' with z | z
    · rw [z]; exact ⟨_, he, fun v q => nomatch q⟩
    · rw [z]; exact ⟨o, ho, fun v q => by rw [hd] at q; cases q⟩
  keep := fun i h h' st k => let ⟨⟨old, he⟩, hi, hne⟩ := st; ⟨⟨old, k e (by simp) _ he⟩, hi.at fun o q => k it (by simp) o q, hne⟩
  item := by
    intro X hP hw hK hc i pins s σ H E I hf st hg
    subst hP hw hK
    obtain ⟨⟨old, he⟩, hit, hne⟩ := st
    obtain ⟨xs, x, hq, hx⟩ := hg
    obtain ⟨its, rv, p, hz⟩ := I.tuple hq
    obtain ⟨u, hu, ru⟩ := rv.get hx
    have hel : e < s.heap.objs.size := Heap.lt_size he
    have hil : it < s.heap.objs.size := by obtain ⟨_, q, _⟩ := hit; exact Heap.lt_size q
    have p' : s.heap.IsTuple a its.toArray := p
    have hea := enum_ne he p'
    have hia : a ≠ it := fun z => by
      obtain ⟨o, ho, hc, _⟩ := p'
      obtain ⟨o2, ho2, hc2, _⟩ := hit
      rw [z, ho2] at ho
      cases ho
      rw [hc2] at hc
      exact absurd (Value.type.inj hc) (by decide)
    have hli : i < its.toArray.size := by
      have := (List.getElem?_eq_some_iff.mp hu).1
      simpa using this
    refine wpAny_pyNext_enum_itemD (Draws.tuple (A := X.A.in1) (I.ok.hd hc) it a hia its.toArray) he ⟨hit, p'⟩ hli hne (by simp only [List.mem_cons, List.not_mem_nil, or_false, not_or]; exact ⟨hne, hea⟩) fun y h' tk hy ho hst hT hsz hk => ?_
    have ey : y = u := by
      have : its.toArray[i]? = some u := by simpa using hu
      exact Option.some.inj (hy.symm.trans this)
    subst ey
    obtain ⟨hit', _⟩ := hst
    refine ⟨_, rfl, wpAny_letOwnedTupleGo_enum (s := { s with heap := h', toks := tk + 1 }) ho fun h'' he' sb => ?_⟩
    have hT2 : h''.get? s.heap.objs.size = some { cls := .type "tuple", data := .seq #[.int i tk, y] } := (sb.2 _ (Nat.ne_of_gt hel)).trans hT
    have new : ObjOk X.prog X.w (upd H s.heap.objs.size (.tup [.int (i : Nat), x])) h'' s.heap.objs.size (.tup [.int (i : Nat), x]) :=
      ⟨by show 2 ≤ sizeLine; decide, [.int i tk, y], .cons ⟨_, rfl⟩ (.cons ru .nil), ⟨_, hT2, rfl, _, rfl⟩⟩
    have I1 : Inv X pins σ (upd H s.heap.objs.size (.tup [.int (i : Nat), x])) { s with heap := h'', toks := tk + 1 } :=
      I.turnedNew (ch := [e, it]) (fun b ob hb q => (sb.2 b (fun z => hb (by simp [z]))).trans (hk b ob (fun z => hb (by simp [z])) (fun z => hb (by simp [z])) q)) hf (Nat.le_refl _) new
    refine ⟨.ref s.heap.objs.size, _, I1, rfl, ⟨_, x, rfl, I.hok.fresh (Nat.le_refl _), rfl, fun ys hy => by rw [I.tuple_inj hy hq]; exact hx⟩, ⟨⟨y, ?_⟩, hit'.at fun o q => (sb.2 it (Ne.symm hne)).trans q, hne⟩, fun b hb => ?_⟩
    · have e1 : ((i + 1 : Nat) : Int) = (i : Int) + 1 := by omega
      rw [e1]; exact he'
    · have hb' : b < s.heap.objs.size := by
        have e' : b = e ∨ b = it := by simpa using hb
        rcases e' with z | z
        · rw [z]; exact hel
        · rw [z]; exact hil
      rw [upd_ne (Nat.ne_of_lt hb')]
      exact (hf b hb).1
  done := by
    intro X hP hw hK hc i pins s σ H E I hf st hg
    subst hP hw hK
    obtain ⟨⟨old, he⟩, hit, hne⟩ := st
    obtain ⟨xs, hq, hx⟩ := hg
    obtain ⟨its, rv, p, hz⟩ := I.tuple hq
    obtain ⟨f0, f1, f2, f3, f4, f5⟩ := hf it (by simp)
    have hl := rv.length
    have p' : s.heap.IsTuple a its.toArray := p
    have hT : s.TypeIs (.ref e) "enumerate" := ⟨_, he, rfl⟩
    unfold pyNext
    refine wpAny_bind (wpAny_attempt (wpAny_callSpecial?_slot (name := Str.ofString "__next__") hT F.slot_enumerate_next
      (wpAny_call_entry F.slot_enumerate_next hT F.entry_enumerate_next ?_ (F.args_enumerate_next_1 _))))
    show wpAny _ _ (field (.ref e) 2 >>= _) _ _ _
    refine wpAny_bind (wpAny_field he rfl (x := .ref it) rfl ?_)
    refine wpAny_bind (wpAny_nextOf_tuple_end (I.ok.hd hc) hit p' (by simp; omega) fun h' x he' hx' => ?_)
    obtain ⟨o, ho, hc'⟩ := hx'
    refine wpAny_bind (wpAny_isInstance (T := "StopIteration") (b := true) ⟨o, ho, hc'⟩ isSubtype_stop ?_)
    exact wpAny_pure ⟨rfl, I.turned (t' := s.toks) (fun b o hb q => he' b o hb q) f0 f1 f3 f4 f5⟩
  self := fun A i s Q E st h => let ⟨⟨_, he⟩, _⟩ := st; wpAny_pyIter_enum he h
theorem meets_enumerate_newT (l : Addr) (items : Array Value) :
    Meets (Builtin.«enumerate.__new__» ⟨[.type "enumerate", .ref l], []⟩) (fun _ R s => s.heap.IsTuple l items ∧
      R (.ok (.ret (.ref (s.heap.push { cls := .type "tuple_iterator", data := .fields #[.ref l, .int 0 0] }).objs.size)))
        { s with heap := (s.heap.push { cls := .type "tuple_iterator", data := .fields #[.ref l, .int 0 0] }).push { cls := .type "enumerate", data := .fields #[.none, .bool false, .ref s.heap.objs.size, rawInt 0, .none, .none] } }) :=
  .of_wp fun prog w A R s h => by
    obtain ⟨hp, g, d, tk, os⟩ := s; obtain ⟨hL, h⟩ := h
    have hsub := sub_enumerate
    obtain ⟨o, hl, hc, n, hd⟩ := id hL
    wp_walk using AutoSeq1.wpAny_loadPart' hl
    refine wpAny_stack_any fun st => wpAny_pure ?_
    split
    · rename_i c _ _ _ _ _
      cases (c == Value.type "enumerate")
      · wp_walk using AutoSeq1.wpAny_loadPart' hl, wpAny_pyIter_tuple hL
        exact ⟨_, rfl, h⟩
      · wp_walk using AutoSeq1.wpAny_loadPart' hl, wpAny_pyIter_tuple hL
        exact ⟨_, rfl, h⟩
    · wp_walk using AutoSeq1.wpAny_loadPart' hl, wpAny_pyIter_tuple hL
      exact ⟨_, rfl, h⟩
section
variable {prog : Program} {w : World} {A : Around} {E : Value → Shared → Prop} {s : Shared}
theorem call_enumerate_tuple {l : Addr} {items : Array Value} {Q : Value → Shared → Prop} (hL : s.heap.IsTuple l items)
    (h : ∀ h', IsEnum h' (s.heap.objs.size + 1) s.heap.objs.size 0 .none → h'.IsTupleIter s.heap.objs.size l 0 → h'.objs.size = s.heap.objs.size + 2 →
      (∀ b o, s.heap.get? b = some o → h'.get? b = some o) → Q (.ref (s.heap.objs.size + 1)) { s with heap := h' }) :
    wpAny (model prog w) A (call (.type "enumerate") [.ref l]) Q E s := by
  refine callType_new F.called_enumerate (by decide) (F.typeCall_enumerate_1 _) (F.newCall_enumerate_1 _) (fun obj => F.args_object_init_2 obj _) F.entry_enumerate_new
    (meets_enumerate_newT l items) ⟨hL, ?_⟩
  have hz : (s.heap.push { cls := .type "tuple_iterator", data := .fields #[.ref l, .int 0 0] }).objs.size = s.heap.objs.size + 1 := Heap.size_push ..
  show _ ∧ _
  rw [hz]
  have he : IsEnum ((s.heap.push { cls := .type "tuple_iterator", data := .fields #[.ref l, .int 0 0] }).push
      { cls := .type "enumerate", data := .fields #[.none, .bool false, .ref s.heap.objs.size, rawInt 0, .none, .none] }) (s.heap.objs.size + 1) s.heap.objs.size 0 .none := by
    have := Heap.get?_push_size (s.heap.push { cls := .type "tuple_iterator", data := .fields #[.ref l, .int 0 0] })
      (o := { cls := .type "enumerate", data := .fields #[.none, .bool false, .ref s.heap.objs.size, rawInt 0, .none, .none] }) rfl
    rw [hz] at this; exact this
  refine ⟨⟨_, he, rfl⟩, h _ he ⟨_, Heap.get?_push_of_some _ (Heap.get?_push_size _ rfl), rfl, rfl⟩ (by rw [Heap.size_push, hz]) fun b o x => Heap.get?_push_of_some _ (Heap.get?_push_of_some _ x)⟩
end
/-- enumerate of a list or of a tuple -/
def iEnumS (K : PySem.W.Frag) (ta : TA) : TI := fun σ H R => ta σ H fun vs H1 => ∃ a xs, vs = [.ref a] ∧ ((SqL K H1 a xs ∧ R (Ite K a) H1) ∨ (SqT K H1 a xs ∧ R (IteT K a) H1))
theorem pi_enumS {X : Cx} {e : Expr} {ta : TA} {p pos tpos : Pos} {elts : List Expr} {kk : Nat} (hg : Gl X "enumerate") (hm : X.mg "enumerate" = none) (ha : PA X [e] ta) (hs : starEach [e] X.env = [(false, eval e X.env)] := by rfl) :
    PI X (.Tuple elts kk tpos) (.Call (.Name "enumerate" p) [e] [] pos) (iEnumS X.K ta) := by
  refine ⟨fun pins s σ H R I h => ?_⟩
  refine Call_ (ld_blt I hg hm boot_enumerate (PyProof.Rows.callWith_type1 (thn (ha.run pos pins s σ H _ I h) fun us s1 ⟨vs, H1, I1, r1, q1⟩ => ?_) hs rfl))
  obtain ⟨a, xs, ex, q⟩ := q1
  subst ex
  cases r1 with
  | cons r rr =>
    cases rr
    cases r
    have fin : ∀ b ∈ [s1.heap.objs.size + 1, s1.heap.objs.size], FpOk X pins H1 b := fun b hb => by
      have e' : b = s1.heap.objs.size + 1 ∨ b = s1.heap.objs.size := by simpa using hb
      have hle : s1.heap.objs.size ≤ b := by
        rcases e' with z | z
        · rw [z]; exact Nat.le_add_right _ _
        · rw [z]; exact Nat.le_refl _
      exact I1.fpOk hle (I1.hok.fresh hle)
    rcases q with ⟨hq, q⟩ | ⟨hq, q⟩
    · obtain ⟨its, rv, p', hz⟩ := I1.list hq
      refine call_enumerate_list p'.isList fun h' he hit hsz hk => wpAny_pyIter_enum he ?_
      have I2 : Inv X pins σ H1 { s1 with heap := h' } := I1.kept (t' := s1.toks) hk
      exact ⟨s1.heap.objs.size + 1, [s1.heap.objs.size + 1, s1.heap.objs.size], _, _, H1, rfl, I2, turn_enum a (s1.heap.objs.size + 1) s1.heap.objs.size, ⟨⟨.none, he⟩, hit, Nat.succ_ne_self _⟩, fin, q⟩
    · obtain ⟨its, rv, p', hz⟩ := I1.tuple hq
      refine call_enumerate_tuple p' fun h' he hit hsz hk => wpAny_pyIter_enum he ?_
      have I2 : Inv X pins σ H1 { s1 with heap := h' } := I1.kept (t' := s1.toks) hk
      exact ⟨s1.heap.objs.size + 1, [s1.heap.objs.size + 1, s1.heap.objs.size], _, _, H1, rfl, I2, turn_enumT a (s1.heap.objs.size + 1) s1.heap.objs.size, ⟨⟨.none, he⟩, hit, Nat.succ_ne_self _⟩, fin, q⟩
end KX
set_option Elab.async false
set_option linter.all false
set_option maxRecDepth 100000
set_option maxHeartbeats 4000000

namespace PySem
namespace EBF
open PySem.W PySem.Calls PyProof.Rows PySem.HandSPX
/-! ### the text of __init__ -/
def iA : Arguments := { posonlyargs := [], args := [{ arg := "self", annotation := none, pos := ⟨43, 17, 43, 21⟩ }, { arg := "thing", annotation := none, pos := ⟨43, 23, 43, 28⟩ }], vararg := none, kwonlyargs := [], kw_defaults := [], kwarg := none, defaults := [] }
def iB : List Stmt := [.Expr (.Call (.Attribute (.Call (.Name "super" ⟨44, 8, 44, 13⟩) [] [] ⟨44, 8, 44, 15⟩) "__init__" ⟨44, 8, 44, 24⟩) [.Name "thing" ⟨44, 25, 44, 30⟩] [] ⟨44, 8, 44, 31⟩) ⟨44, 8, 44, 31⟩, .Assign [.Attribute (.Name "self" ⟨45, 8, 45, 12⟩) "thing" ⟨45, 8, 45, 18⟩] (.Name "thing" ⟨45, 21, 45, 26⟩) ⟨45, 8, 45, 26⟩]
def iS : Scope := { kind := .function, names := [(PySem.Str.ofString "self", .local), (PySem.Str.ofString "thing", .local), (PySem.Str.ofString "__class__", .free), (PySem.Str.ofString "super", .globalImplicit)], isGenerator := false, isCoroutine := false, more := [] }
/-- what the written part says of the class at C, and of its __init__, at fI -/
structure ErrTxt (P : Program) (K : Frag) (mg : Str → Option Value) (C fI : Addr) : Prop where
  gC : mg "BadForm" = some (.ref C)
  cls : ∃ nm q N bs bm sn sub ab col dd k0 k1 k2 k3 k5, K.lookup C = some (excClassObj nm q C N bs bm true sn sub ab col dd k0 k1 k2 k3 k5 "ValueError.__new__") ∧ refsVE bm = true
  sa : findIn K (.ref C) "__setattr__" = some (some (.builtin "object.__setattr__"))
  ga : findIn K (.ref C) "__getattribute__" = some (some (.builtin "BaseException.__getattribute__"))
  gg : findIn K (.ref C) "__getattr__" = some none
  noN : findIn K (.ref C) "thing" = some none
  iC : findIn K (.ref C) "__init__" = some (some (.ref fI))
  tC : typeIn K (.ref fI) = some (.type "function")
  kC : keepIn K (.ref C) = true
  exC : subIn K (.ref C) (.type "BaseException") = some true
  exV : subIn K (.ref C) (.type "ValueError") = some true
  tyC : typeIn K (.ref C) = some (.type "type")
  hdC : hasDictIn K C = true
  te : exmOne K (.ref C) (.ref C) = some true
  sup : ks_superIn K C C "__init__" = some (some (.builtin "ValueError.__init__"))
  opq : nsIn K cStatics "thirdparty.any" = some none
  selfC : mroIn K C (.ref C) = some true
  gS : mg "super" = none
  top : (P.main.scope.names.lookup ("super" : Str)).isSome = false
  fn : ∃ (oc : Value) (od : Option Addr) (doc pm : Value) (an : Option Addr) (ct : Value) (osl : Array (Option Value)) (cda cc : Addr) (ccl : Value) (cdd : Option Addr) (vs : Array Value) (ccs : Array (Option Value))
      (file : Str) (tf : Tok) (cl : Value) (cld : Option Addr) (csl : Array (Option Value)),
    K.lookup fI = some ⟨oc, od, .func (ksFn "__init__" "BadForm.__init__" iA iB iS .none .none doc pm an (.ref cda) ct cc), osl⟩ ∧ codeIn K (.ref cda) "BadForm.__init__" = true ∧
    K.lookup cda = some ⟨ccl, cdd, .fields vs, ccs⟩ ∧ vs[2]? = some (.str file tf) ∧ ((P.main.file : Str) == file) = true ∧ K.lookup cc = some ⟨cl, cld, .cell (some (.ref C)), csl⟩
theorem one_size (v : Value) : [v].length ≤ sizeLine := by
  rw [sizeLine_eq]
  exact (by decide : 1 ≤ 16777216)
theorem ldE {M : Model} {s : Shared} {scope : Scope} {L a : Addr} {cd : Value} {cl : List (Str × Addr)} {name : Str} {m : Str → Option Value} {x : Str} {pos : Pos} {v : Value} {Q : Value → Shared → Prop} {A : Around} {E : Value → Shared → Prop} (hn : s.heap.Ns L m) (hv : m x = some v) (h : Q v s)
    (hk : scope.kind = .function := by rfl) (hl : (envX name scope L a cd cl).kindOf x = some .local := by rfl) (hd : (x == ("__debug__" : Str)) = false := by decide) :
    wpAny M A (eval (.Name x pos) (envX name scope L a cd cl)) Q E s := wpAny_Name (wpAny_loadName_local hk hl hn hv h) hd
/-- what __init__ leaves of a fresh exception at x -/
structure InitEnd (h h' : Heap) (x C dx t1 : Addr) (v : Value) : Prop where
  keep : ∀ b o, b ≠ x → h.get? b = some o → h'.get? b = some o
  obj : h'.get? x = some { cls := .ref C, dict := some dx, data := .fields #[.ref t1, .none, .none, .none, .bool false, .none] }
  dbig : h.objs.size ≤ dx
  dne : dx ≠ x
  ns : h'.Ns1 dx (fun y => if y = "thing" then some v else none)
/-- a made error -/
structure OwnMade (h h' : Heap) (e C d : Addr) (v : Value) : Prop where
  keep : ∀ b o, h.get? b = some o → h'.get? b = some o
  new : h.objs.size ≤ e
  obj : ∃ oe vs, h'.get? e = some oe ∧ oe.cls = .ref C ∧ oe.dict = some d ∧ oe.data = .fields vs ∧ vs[1]? = some .none
  dbig : h.objs.size ≤ d
  dne : d ≠ e
  ns : h'.Ns1 d (fun y => if y = "thing" then some v else none)
section
variable {prog : Program} {w : World} {A : Around} {E : Value → Shared → Prop} {R : Result → Shared → Prop} {s : Shared} {K : Frag} {mg mb : Str → Option Value} {C fI : Addr}
/-- the bound ValueError.__init__ called -/
theorem call_mw {hp : Heap} {g : Array GenState} {dr : Drawn} {tk : Nat} {os : OsState} {nm q : Str} {N : Addr} {bs bm : List Value} {sn : List Str} {sub : List Value} {ab : Bool} {col : Option Bool} {dd : Option Addr} {k0 k1 k2 k3 k5 : Option Value} {u e t0 : Addr} {rest : List Value} {Q : Value → Shared → Prop}
    (hC : hp.get? C = some (excClassObj nm q C N bs bm true sn sub ab col dd k0 k1 k2 k3 k5 "ValueError.__new__")) (he : hp.get? e = some (excO C t0)) (hu : hp.get? u = some (kxs_mw "ValueError.__init__" e)) (hrest : rest.length ≤ sizeLine)
    (hq : ∀ h', (∀ b o, b ≠ e → hp.get? b = some o → h'.get? b = some o) → h'.get? e = some (excO C hp.objs.size) → Q .none ⟨h', g, dr, tk, os⟩) :
    wpAny (model prog w) A (call (.ref u) rest) Q E ⟨hp, g, dr, tk, os⟩ := by
  refine wpAny_call (codeAny_of_tree ?_)
  show wpAny _ A.in1 (callAny (.ref u) ⟨rest, []⟩) _ _ _
  simp only [callAny]
  refine wpAny_bind (wpAny_load hu ?_)
  simp only [kxs_mw, show (Value.type "method-wrapper" == Value.type "method" || Value.type "method-wrapper" == Value.type "builtin_function_or_method" || Value.type "method-wrapper" == Value.type "method-wrapper") = true by decide, if_true]
  refine KFB.if_so (by decide) ?_
  refine wpAny_bind (check_bound_init F.excBase_ValueError.toExcCallFacts hC he rfl ?_)
  refine wpAny_bind (wpAny_pure (wpAny_pure ?_))
  refine ⟨plainId_quiet F.excBase_ValueError.init.plain _, codeAny_builtin F.excBase_ValueError.initEntry ?_⟩
  exact exc_init_tree (cls := .ref C) (t0 := t0) (dv := none) (c2 := .none) (c3 := .none) (b4 := .bool false) he hrest fun h' k e' _ => hq h' k e'
theorem err_init (T : ErrTxt prog K mg C fI) {x t0 : Addr} {v : Value} (X : K.In s.heap) (hlim : s.heap.NoLimit) (hg : s.heap.Ns mainGlobals mg) (hb : s.heap.Ns builtinsNs mb) (hbb : ∀ x : Str, x ≠ "__name__" → mb x = bootBuiltins x)
    (hx : s.heap.get? x = some (excO C t0)) (hnx : K.lookup x = none) (hroom : A.depth < recursionLimit)
    (hq : ∀ h' tk dx t1, InitEnd s.heap h' x C dx t1 v → R (.ok (.ret .none)) { s with heap := h', toks := tk }) :
    codeAny (model prog w) A (.call (.ref fI) ⟨[.ref x, v], []⟩) R s := by
  obtain ⟨oc, od, doc, pm, an, ct, osl, cda, cc, ccl, cdd, vs, ccs, file, tf, cl, cld, csl, ho, hcd, hcda, hvs, hfile, hcc⟩ := T.fn
  obtain ⟨nm, q, N, bs, bm, sn, sub, ab, col, dd, k0, k1, k2, k3, k5, hC, hbm⟩ := T.cls
  have hcl : clsIn K C = some { name := nm, bases := bs, mro := .ref C :: bm, ns := N, qualname := q, hasDict := true, slotNames := sn, subclasses := sub, abstract := ab, collection := col, hasDel := false } := by unfold clsIn; rw [hC] <;> rfl
  refine ks_codeAny_call_defAt (fd := ksFn "__init__" "BadForm.__init__" iA iB iS .none .none doc pm an (.ref cda) ct cc) (body := iB) (binds := [("self", .ref x), ("thing", v)]) hroom (X _ _ ho) rfl hlim (codeRec_of X hcd) rfl
    (BindsTo.of_eq (by first | rfl | with_unfolding_all rfl)) (show ∀ y ∈ iS.names, y.2 ≠ .cell from by decide +kernel) (fun y hy => by
      simp only [List.mem_cons, List.not_mem_nil, or_false] at hy
      rcases hy with rfl | rfl <;> rfl) (fun h₁ hns k => ?_) rfl rfl rfl
  have X₁ : K.In h₁ := X.keeps k
  have hx₁ := k _ _ hx
  have vself : (fun y => List.lookup y ([(("self" : Str), Value.ref x), (("thing" : Str), v)] : List (Str × Value)).reverse) "self" = some (.ref x) := by first | rfl | with_unfolding_all rfl | kernel_rfl
  have vfld : (fun y => List.lookup y ([(("self" : Str), Value.ref x), (("thing" : Str), v)] : List (Str × Value)).reverse) "thing" = some v := by first | rfl | with_unfolding_all rfl | kernel_rfl
  show wpAt (model prog w) (A.deeper (ksEnv "BadForm.__init__" iS s.heap.objs.size fI (.ref cda) cc)) (.func iB (ksEnv "BadForm.__init__" iS s.heap.objs.size fI (.ref cda) cc)) (execs iB (ksEnv "BadForm.__init__" iS s.heap.objs.size fI (.ref cda) cc)) _ _ _
  refine ks_wpAt_execs_cons (ks_wpAt_Expr_any (ks_wpAt_MethodCall (pl := (do return (← importBound (.Call (.Name "super" ⟨44, 8, 44, 13⟩) [] [] ⟨44, 8, 44, 15⟩) (ksEnv "BadForm.__init__" iS s.heap.objs.size fI (.ref cda) cc)).getD true)) ?_ (by first | rfl | with_unfolding_all rfl | kernel_rfl)))
  refine ks_wpAt_super_base (env := ksEnv "BadForm.__init__" iS s.heap.objs.size fI (.ref cda) cc) (f := fI) (cc := cda) (by rfl) (by rfl) (by decide) rfl (X₁ _ _ ho) rfl rfl rfl (X₁ _ _ hcda) rfl hvs hfile T.top ?_
  refine ks_loadName_global (by rfl) (by rfl) (loadGlobal_builtin (env := ksEnv "BadForm.__init__" iS s.heap.objs.size fI (.ref cda) cc) (hg.keeps k) T.gS (hb.keeps k) ((hbb _ (by decide +kernel)).trans (by decide +kernel : bootBuiltins "super" = some (.type "super"))) ⟨rfl, ?_⟩)
  refine wpAny_loadName_free (by rfl) (by rfl) (by rfl) ⟨_, X₁ _ _ hcc, rfl⟩ ?_
  refine wpAny_loadName_local (by rfl) (by rfl) hns vself ?_
  have hC₁ := X₁ _ _ hC
  obtain ⟨oD, hD1, hD2⟩ : ∃ oD, h₁.get? C = some oD ∧ ∃ cdD, oD.data = .cls cdD := ⟨_, hC₁, _, rfl⟩
  obtain ⟨cdD, hD2⟩ := hD2
  have I : InstAt h₁ x (excO C t0) C none := ⟨hx₁, rfl, rfl, trivial⟩
  refine ks_wpAny_isType_cls hD1 hD2 ⟨rfl, ?_⟩
  refine ks_wpAny_call_super hD1 hD2 hx₁ rfl (fun c e => nomatch e) (looks_mroIn X₁ T.selfC) (fun h₂ e₂ k₂ => ?_)
  -- getMethod
  have X₂ : K.In h₂ := X₁.keeps k₂
  have hx₂ := k₂ _ _ hx₁
  have I₂ : InstAt h₂ x (excO C t0) C none := ⟨hx₂, rfl, rfl, trivial⟩
  have hI : Looks (model prog w) h₂ (isInstance (.ref x) (.type "ValueError")) true := I₂.type.andThen (looks_subIn X₂ T.exV)
  have hs := T.sup
  unfold ks_superIn at hs
  rw [hcl] at hs
  have hs2 : alongIn K "__init__" (((Value.ref C :: bm).dropWhile (· != .ref C)).drop 1) = some (some (.builtin "ValueError.__init__")) := hs
  refine kxs_getMethod kxs_ValueError e₂ (looks_opaque X₂ T.opq) (l₀ := .ref C :: bm) (fun A Q E s k q => wpAny_bind ((looks_clsIn X₂ hcl) A _ E s k (wpAny_pure q))) rfl X₂ hs2 hI (ks_ne X₂ I₂ hcl) (by decide) ?_
  -- the call
  have hu : (h₂.push (kxs_mw "ValueError.__init__" x)).get? h₂.objs.size = some (kxs_mw "ValueError.__init__" x) := Heap.get?_push_at rfl rfl
  have k₃ : ∀ b o, h₂.get? b = some o → (h₂.push (kxs_mw "ValueError.__init__" x)).get? b = some o := fun b o e => Heap.get?_push_of_some _ e
  have kk : ∀ b o, h₁.get? b = some o → (h₂.push (kxs_mw "ValueError.__init__" x)).get? b = some o := fun b o e => k₃ _ _ (k₂ _ _ e)
  obtain ⟨hp0, g0, dr0, tk0, os0⟩ := s
  show wpAny _ _ (callWith ⟨44, 8, 44, 31⟩ (.ref h₂.objs.size) [] ((false, eval (.Name "thing" ⟨44, 25, 44, 30⟩) (ksEnv "BadForm.__init__" iS hp0.objs.size fI (.ref cda) cc)) :: backTo ⟨44, 8, 44, 31⟩ (starEach [] (ksEnv "BadForm.__init__" iS hp0.objs.size fI (.ref cda) cc))) []) _ _ _
  refine kxs_callWith (i := "ValueError.__init__") (x := x) rfl (evalArgs_plain (spliced_cons (ldE (v := v) (hns.keeps kk) vfld (spliced_nil ⟨hu, ?_⟩))))
  show wpAny _ _ (call (.ref h₂.objs.size) [v]) _ _ _
  refine call_mw (kk _ _ hC₁) (kk _ _ hx₁) hu (one_size v) (fun h₄ k₄ e₄ => ?_)
  -- self.f = v
  have nxL : ∀ {b o}, (h₂.push (kxs_mw "ValueError.__init__" x)).get? b = some o → b ≠ x → h₄.get? b = some o := fun {b o} e hb => k₄ b o hb e
  have xold : x < hp0.objs.size := Heap.lt_size hx
  have hns₄ : h₄.Ns hp0.objs.size (fun y => List.lookup y ([(("self" : Str), Value.ref x), (("thing" : Str), v)] : List (Str × Value)).reverse) := by
    obtain ⟨o, es, ep, e1, r⟩ := hns.keeps kk
    exact ⟨o, es, ep, nxL e1 (Nat.ne_of_gt xold), r⟩
  have X₄ : K.In h₄ := fun a o e => nxL (kk _ _ (X₁ _ _ e)) (fun z => by rw [z, hnx] at e; cases e)
  refine wpAt_of_wpAny ?_
  refine wpAny_execs_cons (plainObj_wpAny_Assign_Attribute ?_)
  refine ldE (v := v) hns₄ vfld (ldE (v := .ref x) hns₄ vself ?_)
  refine set_plain X₄ (ox := excO C (h₂.push (kxs_mw "ValueError.__init__" x)).objs.size) (od := none) ⟨e₄, rfl, rfl, trivial⟩ T.sa ?_
  refine exc_osa X₄ e₄ hcl (show refsVE (.ref C :: bm) = true from hbm) rfl T.noN (fun h₃ tk₃ dx k₃' dn dne hx₃ hn₃ => ?_)
  refine wpAny_execs_nil (hq h₃ tk₃ dx _ ⟨fun b o hb e => k₃' b o hb (nxL (kk _ _ (k _ _ e)) hb), hx₃, ?_, dne, hn₃⟩)
  exact Nat.le_trans (Nat.le_of_lt (Heap.lt_size (show h₄.get? hp0.objs.size = _ from hns₄.choose_spec.choose_spec.choose_spec.1))) dn
theorem err_made (T : ErrTxt prog K mg C fI) {v : Value} (X : K.In s.heap) (hlim : s.heap.NoLimit) (hg : s.heap.Ns mainGlobals mg) (hb : s.heap.Ns builtinsNs mb) (hbb : ∀ x : Str, x ≠ "__name__" → mb x = bootBuiltins x) (hroom : A.depth + 1 < recursionLimit)
    (hq : ∀ h' tk e d, OwnMade s.heap h' e C d v → R (.ok (.ret (.ref e))) { s with heap := h', toks := tk }) :
    codeAny (model prog w) A (.call (.ref C) ⟨[v], []⟩) R s := by
  obtain ⟨nm, q, N, bs, bm, sn, sub, ab, col, dd, k0, k1, k2, k3, k5, hC, hbm⟩ := T.cls
  obtain ⟨hp, g, dr, tk, os⟩ := s
  have k : ∀ b o, hp.get? b = some o → ((hp.push (kdv_tup [v])).push (excO C hp.objs.size)).get? b = some o := fun b o e => Heap.get?_push_of_some _ (Heap.get?_push_of_some _ e)
  have hget : ((hp.push (kdv_tup [v])).push (excO C hp.objs.size)).get? (hp.objs.size + 1) = some (excO C hp.objs.size) := by heap_get
  have hnx : K.lookup (hp.objs.size + 1) = none := by
    cases e : K.lookup (hp.objs.size + 1) with
    | none => rfl
    | some o =>
      have z : hp.get? (hp.objs.size + 1) = some o := X _ _ e
      exact absurd (Nat.lt_of_succ_lt (Heap.lt_size z)) (Nat.lt_irrefl _)
  refine call_own F.excBase_ValueError (fun X => refsVE_contains X bm hbm) (X _ _ hC) (looks_findIn X T.iC) (fun self => bind_fn X self T.tC) (one_size v) ?_
  refine err_init (s := ⟨(hp.push (kdv_tup [v])).push (excO C hp.objs.size), g, dr, tk, os⟩) T (X.keeps k) (hlim.keeps k) (hg.keeps k) (hb.keeps k) hbb hget hnx ?_ fun h' tk' dx t1 ⟨k', hx, dn, dne, hns⟩ => ?_
  · show A.depth + 1 < recursionLimit
    exact hroom
  · have old : ∀ b o, hp.get? b = some o → h'.get? b = some o := fun b o e => k' b o (Nat.ne_of_lt (Nat.lt_succ_of_lt (Heap.lt_size e))) (k b o e)
    have z : hp.objs.size + 1 + 1 ≤ dx := by
      first
        | (simpa only [Heap.size_push] using dn)
        | exact dn
        | (have q := dn; rw [Heap.size_push, Heap.size_push] at q; exact q)
    exact ⟨rfl, hq h' tk' (hp.objs.size + 1) dx ⟨old, Nat.le_succ _, ⟨_, _, hx, rfl, rfl, rfl, rfl⟩, Nat.le_trans (Nat.le_trans (Nat.le_succ _) (Nat.le_succ _)) z, dne, hns⟩⟩
end
end EBF
end PySem
namespace L2
namespace EBF
open PySem PySem.Spec PyProof.Rows
theorem relO_err {v : V} {v' : Value} (r : RelV v v') (f : Str) : RelO (List.lookup f [(("thing" : Str), v)]) (if f = "thing" then some v' else none) := by
  by_cases hw : f = "thing"
  · subst hw
    rw [if_pos rfl]
    have q : List.lookup ("thing" : Str) [(("thing" : Str), v)] = some v := by simp [List.lookup]
    rw [q]
    exact r
  · rw [if_neg hw]
    have qw : (f == ("thing" : Str)) = false := by simpa using hw
    have q2 : List.lookup f [(("thing" : Str), v)] = none := by simp [List.lookup, qw]
    rw [q2]
    trivial
section
variable {X : Cx} {C fI : Addr}
/-- the error made of e -/
def tMkE (C : Addr) (ta : TA) : St → Hp → XK → Prop := fun σ H Q => ta σ H fun vs H1 => ∃ v, vs = [v] ∧ ∀ d, H1 d = none → Q (.ref C) (some d) (upd H1 d (.xd [(("thing" : Str), v)]))
theorem pmk_err {a : Expr} {ta : TA} {p pos : Pos} {k : Nat} (T : PySem.EBF.ErrTxt X.prog X.K X.mg C fI) (hr : Room k X.A) (ha : PA X [a] ta) (hg : Gl X "BadForm" := by rfl)
    (he : starEach (a :: []) X.env = (false, eval a X.env) :: starEach [] X.env := by rfl) (hpl : (backTo pos (starEach [] X.env)).any (·.1) = false := by rfl) :
    PMk X (.Call (.Name "BadForm" p) [a] [] pos) (tMkE C ta) := by
  intro pins s σ H Q I h
  refine wpAny_Call_Name_kw (ld_glob I hg T.gC ?_)
  refine PySem.W.callWith_K (h₀ := X.base) I.ok.mod.kin T.kC (thn (ha.run pos pins s σ H _ I h) fun us s1 hh => ?_) he hpl
  obtain ⟨vs, H1, I1, r1, v, ev, q1⟩ := hh
  subst ev
  refine ⟨I1.kIn, ?_⟩
  cases r1 with
  | cons rv rn =>
    rename_i v' us'
    cases rn
    show wpAny _ _ (call (.ref C) [v']) _ _ _
    have hlim := I1.nolimit
    obtain ⟨mb, hmb, hbb⟩ := I1.ok.mod.blt
    obtain ⟨hp, g, dr, tk, os⟩ := s1
    refine wpAny_call (PySem.EBF.err_made T I1.kIn hlim (I1.ok.mod.glob.keeps I1.bk) (hmb.keeps I1.bk) hbb (by have := hr.dp; omega) fun h' tk' e d M => ?_)
    show MkP X pins σ Q (.ref e) ⟨h', g, dr, tk', os⟩
    obtain ⟨oe, fv, hoe, hc, hd, hdat, h1⟩ := M.obj
    have hns := M.ns
    obtain ⟨G', g1, g2⟩ := restrict h' fun b => decide (b ≠ e)
    have gk : ∀ b, b ≠ e → G'.get? b = h'.get? b := fun b hb => g1 b (decide_eq_true hb)
    have ge : G'.get? e = none := g2 e (by simp)
    have old : ∀ b o, hp.get? b = some o → G'.get? b = some o := fun b o q => (gk b (Nat.ne_of_lt (Nat.lt_of_lt_of_le (Heap.lt_size q) M.new))).trans (M.keep b o q)
    have ob : ObjOk X.prog X.w (upd H1 d (.xd [(("thing" : Str), v)])) G' d (.xd [(("thing" : Str), v)]) :=
      ⟨_, hns.at (fun o q => (gk d M.dne).trans q), fun f => relO_err rv f⟩
    have J : Inv X pins σ (upd H1 d (.xd [(("thing" : Str), v)])) ⟨G', g, dr, tk', os⟩ := I1.laid (t' := tk') old M.dbig ob
    refine ⟨e, oe, fv, ⟨G', g, dr, tk', os⟩, _, .ref C, some d, rfl, J, fun b o q => ?_, ge, hoe, ⟨hc, hd⟩, hdat, h1, ?_, rfl, I1.bare, raises_own T.exC T.tyC, q1 d (I1.hok.fresh M.dbig)⟩
    · by_cases hb : b = e
      · have q' : G'.get? b = some o := q
        rw [hb, ge] at q'; cases q'
      · exact (gk b hb).symm.trans q
    · rw [upd_ne (Ne.symm M.dne)]
      exact I1.hok.fresh M.new
/-- raise E(e) -/
def tRaiseE (C : Addr) (W : WX) (ta : TA) : TS := fun _ σ H => tMkE C ta σ H fun cls d H' => W cls d σ H'
theorem ps_raiseE {a : Expr} {ta : TA} {W : WX} {p pos pos2 : Pos} {k : Nat} (hc : X.calm = true) (T : PySem.EBF.ErrTxt X.prog X.K X.mg C fI) (hr : Room k X.A) (tk : Takes X W) (ha : PA X [a] ta) (hg : Gl X "BadForm" := by rfl)
    (he : starEach (a :: []) X.env = (false, eval a X.env) :: starEach [] X.env := by rfl) (hpl : (backTo pos (starEach [] X.env)).any (·.1) = false := by rfl) :
    PS X (.Raise (some (.Call (.Name "BadForm" p) [a] [] pos)) none pos2) (tRaiseE C W ta) := ps_raise hc tk (pmk_err T hr ha hg he hpl)
/-- e.f, e the exception that the suite holds (at a; its class cls, its dict d) -/
def tByE (C : Addr) (a : Addr) (cls : Value) (d : Option Addr) (te : TE) : TE := fun σ H Q => te σ H fun x H1 => x = .ref a ∧ cls = .ref C ∧ ∃ (dd : Addr) (v : V), d = some dd ∧ H1 dd = some (.xd [(("thing" : Str), v)]) ∧ Q v H1
theorem pe_byE {a : Addr} {oe : Obj} {cls : Value} {d : Option Addr} {pn : List (Addr × Obj)} {e : Expr} {te : TE} {pos : Pos} (T : PySem.EBF.ErrTxt X.prog X.K X.mg C fI) (hz : Zc cls d oe) (hf : ∃ vs, oe.data = .fields vs) (he : PE (X.suite a ((a, oe) :: pn)) e te)
    (hb : attributeBase e "thing" X.env (eval e X.env) = eval e X.env := by rfl) :
    PE (X.suite a ((a, oe) :: pn)) (.Attribute e "thing" pos) (tByE C a cls d te) := by
  refine ⟨fun pins s σ H Q I h => ?_⟩
  refine attr_of hb (thn (he.run pins s σ H _ I h) fun u s1 hh => ?_)
  obtain ⟨x, H1, I1, rx, ex, ec, dd, v, ed, ea, q⟩ := hh
  subst ex
  obtain rfl : u = Value.ref a := rx
  subst ec
  subst ed
  obtain ⟨ha, _⟩ := I1.pin (a, oe) (List.mem_append_left _ List.mem_cons_self)
  obtain ⟨vs, hd⟩ := hf
  have hx : ObjOk X.prog X.w H1 s1.heap dd (.xd [(("thing" : Str), v)]) := I1.hok dd _ ea
  obtain ⟨mA, hns, hr⟩ := hx
  obtain ⟨od, ho, hl⟩ := lookIn_ns hns
  have l : List.lookup ("thing" : Str) [(("thing" : Str), v)] = some v := by simp [List.lookup]
  obtain ⟨u, hu, ru⟩ := RelO.some_of (v := v) (o := mA "thing") (by rw [← l]; exact hr "thing")
  have J : PySem.W.InstAt s1.heap a oe C (some od) := ⟨ha, hz.1, by unfold PySem.W.notCls; rw [hd] <;> rfl, by rw [hz.2]; exact ho⟩
  exact HandSPX.exc_get I1.kIn J T.ga T.gg T.exC (PySem.W.findObj_own T.hdC T.noN rfl (by rw [hl, hu])) (handed_of ru) ⟨v, H1, I1.tok _, ru, q⟩
end
end EBF
end L2

namespace PySem
namespace EBS
open PySem.W PySem.Calls PyProof.Rows PySem.HandSPX
/-! ### the text of __init__ -/
def iA : Arguments := { posonlyargs := [], args := [{ arg := "self", annotation := none, pos := ⟨48, 17, 48, 21⟩ }, { arg := "index", annotation := none, pos := ⟨48, 23, 48, 28⟩ }], vararg := none, kwonlyargs := [], kw_defaults := [], kwarg := none, defaults := [] }
def iB : List Stmt := [.Expr (.Call (.Attribute (.Call (.Name "super" ⟨49, 8, 49, 13⟩) [] [] ⟨49, 8, 49, 15⟩) "__init__" ⟨49, 8, 49, 24⟩) [.Name "index" ⟨49, 25, 49, 30⟩] [] ⟨49, 8, 49, 31⟩) ⟨49, 8, 49, 31⟩, .Assign [.Attribute (.Name "self" ⟨50, 8, 50, 12⟩) "index" ⟨50, 8, 50, 18⟩] (.Name "index" ⟨50, 21, 50, 26⟩) ⟨50, 8, 50, 26⟩]
def iS : Scope := { kind := .function, names := [(PySem.Str.ofString "self", .local), (PySem.Str.ofString "index", .local), (PySem.Str.ofString "__class__", .free), (PySem.Str.ofString "super", .globalImplicit)], isGenerator := false, isCoroutine := false, more := [] }
/-- what the written part says of the class at C, and of its __init__, at fI -/
structure ErrTxt (P : Program) (K : Frag) (mg : Str → Option Value) (C fI : Addr) : Prop where
  gC : mg "BadForms" = some (.ref C)
  cls : ∃ nm q N bs bm sn sub ab col dd k0 k1 k2 k3 k5, K.lookup C = some (excClassObj nm q C N bs bm true sn sub ab col dd k0 k1 k2 k3 k5 "ValueError.__new__") ∧ refsVE bm = true
  sa : findIn K (.ref C) "__setattr__" = some (some (.builtin "object.__setattr__"))
  ga : findIn K (.ref C) "__getattribute__" = some (some (.builtin "BaseException.__getattribute__"))
  gg : findIn K (.ref C) "__getattr__" = some none
  noN : findIn K (.ref C) "index" = some none
  iC : findIn K (.ref C) "__init__" = some (some (.ref fI))
  tC : typeIn K (.ref fI) = some (.type "function")
  kC : keepIn K (.ref C) = true
  exC : subIn K (.ref C) (.type "BaseException") = some true
  exV : subIn K (.ref C) (.type "ValueError") = some true
  tyC : typeIn K (.ref C) = some (.type "type")
  hdC : hasDictIn K C = true
  te : exmOne K (.ref C) (.ref C) = some true
  sup : ks_superIn K C C "__init__" = some (some (.builtin "ValueError.__init__"))
  opq : nsIn K cStatics "thirdparty.any" = some none
  selfC : mroIn K C (.ref C) = some true
  gS : mg "super" = none
  top : (P.main.scope.names.lookup ("super" : Str)).isSome = false
  fn : ∃ (oc : Value) (od : Option Addr) (doc pm : Value) (an : Option Addr) (ct : Value) (osl : Array (Option Value)) (cda cc : Addr) (ccl : Value) (cdd : Option Addr) (vs : Array Value) (ccs : Array (Option Value))
      (file : Str) (tf : Tok) (cl : Value) (cld : Option Addr) (csl : Array (Option Value)),
    K.lookup fI = some ⟨oc, od, .func (ksFn "__init__" "BadForms.__init__" iA iB iS .none .none doc pm an (.ref cda) ct cc), osl⟩ ∧ codeIn K (.ref cda) "BadForms.__init__" = true ∧
    K.lookup cda = some ⟨ccl, cdd, .fields vs, ccs⟩ ∧ vs[2]? = some (.str file tf) ∧ ((P.main.file : Str) == file) = true ∧ K.lookup cc = some ⟨cl, cld, .cell (some (.ref C)), csl⟩
theorem one_size (v : Value) : [v].length ≤ sizeLine := by
  rw [sizeLine_eq]
  exact (by decide : 1 ≤ 16777216)
theorem ldE {M : Model} {s : Shared} {scope : Scope} {L a : Addr} {cd : Value} {cl : List (Str × Addr)} {name : Str} {m : Str → Option Value} {x : Str} {pos : Pos} {v : Value} {Q : Value → Shared → Prop} {A : Around} {E : Value → Shared → Prop} (hn : s.heap.Ns L m) (hv : m x = some v) (h : Q v s)
    (hk : scope.kind = .function := by rfl) (hl : (envX name scope L a cd cl).kindOf x = some .local := by rfl) (hd : (x == ("__debug__" : Str)) = false := by decide) :
    wpAny M A (eval (.Name x pos) (envX name scope L a cd cl)) Q E s := wpAny_Name (wpAny_loadName_local hk hl hn hv h) hd
/-- what __init__ leaves of a fresh exception at x -/
structure InitEnd (h h' : Heap) (x C dx t1 : Addr) (v : Value) : Prop where
  keep : ∀ b o, b ≠ x → h.get? b = some o → h'.get? b = some o
  obj : h'.get? x = some { cls := .ref C, dict := some dx, data := .fields #[.ref t1, .none, .none, .none, .bool false, .none] }
  dbig : h.objs.size ≤ dx
  dne : dx ≠ x
  ns : h'.Ns1 dx (fun y => if y = "index" then some v else none)
/-- a made error -/
structure OwnMade (h h' : Heap) (e C d : Addr) (v : Value) : Prop where
  keep : ∀ b o, h.get? b = some o → h'.get? b = some o
  new : h.objs.size ≤ e
  obj : ∃ oe vs, h'.get? e = some oe ∧ oe.cls = .ref C ∧ oe.dict = some d ∧ oe.data = .fields vs ∧ vs[1]? = some .none
  dbig : h.objs.size ≤ d
  dne : d ≠ e
  ns : h'.Ns1 d (fun y => if y = "index" then some v else none)
section
variable {prog : Program} {w : World} {A : Around} {E : Value → Shared → Prop} {R : Result → Shared → Prop} {s : Shared} {K : Frag} {mg mb : Str → Option Value} {C fI : Addr}
/-- the bound ValueError.__init__ called -/
theorem call_mw {hp : Heap} {g : Array GenState} {dr : Drawn} {tk : Nat} {os : OsState} {nm q : Str} {N : Addr} {bs bm : List Value} {sn : List Str} {sub : List Value} {ab : Bool} {col : Option Bool} {dd : Option Addr} {k0 k1 k2 k3 k5 : Option Value} {u e t0 : Addr} {rest : List Value} {Q : Value → Shared → Prop}
    (hC : hp.get? C = some (excClassObj nm q C N bs bm true sn sub ab col dd k0 k1 k2 k3 k5 "ValueError.__new__")) (he : hp.get? e = some (excO C t0)) (hu : hp.get? u = some (kxs_mw "ValueError.__init__" e)) (hrest : rest.length ≤ sizeLine)
    (hq : ∀ h', (∀ b o, b ≠ e → hp.get? b = some o → h'.get? b = some o) → h'.get? e = some (excO C hp.objs.size) → Q .none ⟨h', g, dr, tk, os⟩) :
    wpAny (model prog w) A (call (.ref u) rest) Q E ⟨hp, g, dr, tk, os⟩ := by
  refine wpAny_call (codeAny_of_tree ?_)
  show wpAny _ A.in1 (callAny (.ref u) ⟨rest, []⟩) _ _ _
  simp only [callAny]
  refine wpAny_bind (wpAny_load hu ?_)
  simp only [kxs_mw, show (Value.type "method-wrapper" == Value.type "method" || Value.type "method-wrapper" == Value.type "builtin_function_or_method" || Value.type "method-wrapper" == Value.type "method-wrapper") = true by decide, if_true]
  refine KFB.if_so (by decide) ?_
  refine wpAny_bind (check_bound_init F.excBase_ValueError.toExcCallFacts hC he rfl ?_)
  refine wpAny_bind (wpAny_pure (wpAny_pure ?_))
  refine ⟨plainId_quiet F.excBase_ValueError.init.plain _, codeAny_builtin F.excBase_ValueError.initEntry ?_⟩
  exact exc_init_tree (cls := .ref C) (t0 := t0) (dv := none) (c2 := .none) (c3 := .none) (b4 := .bool false) he hrest fun h' k e' _ => hq h' k e'
theorem err_init (T : ErrTxt prog K mg C fI) {x t0 : Addr} {v : Value} (X : K.In s.heap) (hlim : s.heap.NoLimit) (hg : s.heap.Ns mainGlobals mg) (hb : s.heap.Ns builtinsNs mb) (hbb : ∀ x : Str, x ≠ "__name__" → mb x = bootBuiltins x)
    (hx : s.heap.get? x = some (excO C t0)) (hnx : K.lookup x = none) (hroom : A.depth < recursionLimit)
    (hq : ∀ h' tk dx t1, InitEnd s.heap h' x C dx t1 v → R (.ok (.ret .none)) { s with heap := h', toks := tk }) :
    codeAny (model prog w) A (.call (.ref fI) ⟨[.ref x, v], []⟩) R s := by
  obtain ⟨oc, od, doc, pm, an, ct, osl, cda, cc, ccl, cdd, vs, ccs, file, tf, cl, cld, csl, ho, hcd, hcda, hvs, hfile, hcc⟩ := T.fn
  obtain ⟨nm, q, N, bs, bm, sn, sub, ab, col, dd, k0, k1, k2, k3, k5, hC, hbm⟩ := T.cls
  have hcl : clsIn K C = some { name := nm, bases := bs, mro := .ref C :: bm, ns := N, qualname := q, hasDict := true, slotNames := sn, subclasses := sub, abstract := ab, collection := col, hasDel := false } := by unfold clsIn; rw [hC] <;> rfl
  refine ks_codeAny_call_defAt (fd := ksFn "__init__" "BadForms.__init__" iA iB iS .none .none doc pm an (.ref cda) ct cc) (body := iB) (binds := [("self", .ref x), ("index", v)]) hroom (X _ _ ho) rfl hlim (codeRec_of X hcd) rfl
    (BindsTo.of_eq (by first | rfl | with_unfolding_all rfl)) (show ∀ y ∈ iS.names, y.2 ≠ .cell from by decide +kernel) (fun y hy => by
      simp only [List.mem_cons, List.not_mem_nil, or_false] at hy
      rcases hy with rfl | rfl <;> rfl) (fun h₁ hns k => ?_) rfl rfl rfl
  have X₁ : K.In h₁ := X.keeps k
  have hx₁ := k _ _ hx
  have vself : (fun y => List.lookup y ([(("self" : Str), Value.ref x), (("index" : Str), v)] : List (Str × Value)).reverse) "self" = some (.ref x) := by first | rfl | with_unfolding_all rfl | kernel_rfl
  have vfld : (fun y => List.lookup y ([(("self" : Str), Value.ref x), (("index" : Str), v)] : List (Str × Value)).reverse) "index" = some v := by first | rfl | with_unfolding_all rfl | kernel_rfl
  show wpAt (model prog w) (A.deeper (ksEnv "BadForms.__init__" iS s.heap.objs.size fI (.ref cda) cc)) (.func iB (ksEnv "BadForms.__init__" iS s.heap.objs.size fI (.ref cda) cc)) (execs iB (ksEnv "BadForms.__init__" iS s.heap.objs.size fI (.ref cda) cc)) _ _ _
  refine ks_wpAt_execs_cons (ks_wpAt_Expr_any (ks_wpAt_MethodCall (pl := (do return (← importBound (.Call (.Name "super" ⟨49, 8, 49, 13⟩) [] [] ⟨49, 8, 49, 15⟩) (ksEnv "BadForms.__init__" iS s.heap.objs.size fI (.ref cda) cc)).getD true)) ?_ (by first | rfl | with_unfolding_all rfl | kernel_rfl)))
  refine ks_wpAt_super_base (env := ksEnv "BadForms.__init__" iS s.heap.objs.size fI (.ref cda) cc) (f := fI) (cc := cda) (by rfl) (by rfl) (by decide) rfl (X₁ _ _ ho) rfl rfl rfl (X₁ _ _ hcda) rfl hvs hfile T.top ?_
  refine ks_loadName_global (by rfl) (by rfl) (loadGlobal_builtin (env := ksEnv "BadForms.__init__" iS s.heap.objs.size fI (.ref cda) cc) (hg.keeps k) T.gS (hb.keeps k) ((hbb _ (by decide +kernel)).trans (by decide +kernel : bootBuiltins "super" = some (.type "super"))) ⟨rfl, ?_⟩)
  refine wpAny_loadName_free (by rfl) (by rfl) (by rfl) ⟨_, X₁ _ _ hcc, rfl⟩ ?_
  refine wpAny_loadName_local (by rfl) (by rfl) hns vself ?_
  have hC₁ := X₁ _ _ hC
  obtain ⟨oD, hD1, hD2⟩ : ∃ oD, h₁.get? C = some oD ∧ ∃ cdD, oD.data = .cls cdD := ⟨_, hC₁, _, rfl⟩
  obtain ⟨cdD, hD2⟩ := hD2
  have I : InstAt h₁ x (excO C t0) C none := ⟨hx₁, rfl, rfl, trivial⟩
  refine ks_wpAny_isType_cls hD1 hD2 ⟨rfl, ?_⟩
  refine ks_wpAny_call_super hD1 hD2 hx₁ rfl (fun c e => nomatch e) (looks_mroIn X₁ T.selfC) (fun h₂ e₂ k₂ => ?_)
  -- getMethod
  have X₂ : K.In h₂ := X₁.keeps k₂
  have hx₂ := k₂ _ _ hx₁
  have I₂ : InstAt h₂ x (excO C t0) C none := ⟨hx₂, rfl, rfl, trivial⟩
  have hI : Looks (model prog w) h₂ (isInstance (.ref x) (.type "ValueError")) true := I₂.type.andThen (looks_subIn X₂ T.exV)
  have hs := T.sup
  unfold ks_superIn at hs
  rw [hcl] at hs
  have hs2 : alongIn K "__init__" (((Value.ref C :: bm).dropWhile (· != .ref C)).drop 1) = some (some (.builtin "ValueError.__init__")) := hs
  refine kxs_getMethod kxs_ValueError e₂ (looks_opaque X₂ T.opq) (l₀ := .ref C :: bm) (fun A Q E s k q => wpAny_bind ((looks_clsIn X₂ hcl) A _ E s k (wpAny_pure q))) rfl X₂ hs2 hI (ks_ne X₂ I₂ hcl) (by decide) ?_
  -- the call
  have hu : (h₂.push (kxs_mw "ValueError.__init__" x)).get? h₂.objs.size = some (kxs_mw "ValueError.__init__" x) := Heap.get?_push_at rfl rfl
  have k₃ : ∀ b o, h₂.get? b = some o → (h₂.push (kxs_mw "ValueError.__init__" x)).get? b = some o := fun b o e => Heap.get?_push_of_some _ e
  have kk : ∀ b o, h₁.get? b = some o → (h₂.push (kxs_mw "ValueError.__init__" x)).get? b = some o := fun b o e => k₃ _ _ (k₂ _ _ e)
  obtain ⟨hp0, g0, dr0, tk0, os0⟩ := s
  show wpAny _ _ (callWith ⟨49, 8, 49, 31⟩ (.ref h₂.objs.size) [] ((false, eval (.Name "index" ⟨49, 25, 49, 30⟩) (ksEnv "BadForms.__init__" iS hp0.objs.size fI (.ref cda) cc)) :: backTo ⟨49, 8, 49, 31⟩ (starEach [] (ksEnv "BadForms.__init__" iS hp0.objs.size fI (.ref cda) cc))) []) _ _ _
  refine kxs_callWith (i := "ValueError.__init__") (x := x) rfl (evalArgs_plain (spliced_cons (ldE (v := v) (hns.keeps kk) vfld (spliced_nil ⟨hu, ?_⟩))))
  show wpAny _ _ (call (.ref h₂.objs.size) [v]) _ _ _
  refine call_mw (kk _ _ hC₁) (kk _ _ hx₁) hu (one_size v) (fun h₄ k₄ e₄ => ?_)
  -- self.f = v
  have nxL : ∀ {b o}, (h₂.push (kxs_mw "ValueError.__init__" x)).get? b = some o → b ≠ x → h₄.get? b = some o := fun {b o} e hb => k₄ b o hb e
  have xold : x < hp0.objs.size := Heap.lt_size hx
  have hns₄ : h₄.Ns hp0.objs.size (fun y => List.lookup y ([(("self" : Str), Value.ref x), (("index" : Str), v)] : List (Str × Value)).reverse) := by
    obtain ⟨o, es, ep, e1, r⟩ := hns.keeps kk
    exact ⟨o, es, ep, nxL e1 (Nat.ne_of_gt xold), r⟩
  have X₄ : K.In h₄ := fun a o e => nxL (kk _ _ (X₁ _ _ e)) (fun z => by rw [z, hnx] at e; cases e)
  refine wpAt_of_wpAny ?_
  refine wpAny_execs_cons (plainObj_wpAny_Assign_Attribute ?_)
  refine ldE (v := v) hns₄ vfld (ldE (v := .ref x) hns₄ vself ?_)
  refine set_plain X₄ (ox := excO C (h₂.push (kxs_mw "ValueError.__init__" x)).objs.size) (od := none) ⟨e₄, rfl, rfl, trivial⟩ T.sa ?_
  refine exc_osa X₄ e₄ hcl (show refsVE (.ref C :: bm) = true from hbm) rfl T.noN (fun h₃ tk₃ dx k₃' dn dne hx₃ hn₃ => ?_)
  refine wpAny_execs_nil (hq h₃ tk₃ dx _ ⟨fun b o hb e => k₃' b o hb (nxL (kk _ _ (k _ _ e)) hb), hx₃, ?_, dne, hn₃⟩)
  exact Nat.le_trans (Nat.le_of_lt (Heap.lt_size (show h₄.get? hp0.objs.size = _ from hns₄.choose_spec.choose_spec.choose_spec.1))) dn
theorem err_made (T : ErrTxt prog K mg C fI) {v : Value} (X : K.In s.heap) (hlim : s.heap.NoLimit) (hg : s.heap.Ns mainGlobals mg) (hb : s.heap.Ns builtinsNs mb) (hbb : ∀ x : Str, x ≠ "__name__" → mb x = bootBuiltins x) (hroom : A.depth + 1 < recursionLimit)
    (hq : ∀ h' tk e d, OwnMade s.heap h' e C d v → R (.ok (.ret (.ref e))) { s with heap := h', toks := tk }) :
    codeAny (model prog w) A (.call (.ref C) ⟨[v], []⟩) R s := by
  obtain ⟨nm, q, N, bs, bm, sn, sub, ab, col, dd, k0, k1, k2, k3, k5, hC, hbm⟩ := T.cls
  obtain ⟨hp, g, dr, tk, os⟩ := s
  have k : ∀ b o, hp.get? b = some o → ((hp.push (kdv_tup [v])).push (excO C hp.objs.size)).get? b = some o := fun b o e => Heap.get?_push_of_some _ (Heap.get?_push_of_some _ e)
  have hget : ((hp.push (kdv_tup [v])).push (excO C hp.objs.size)).get? (hp.objs.size + 1) = some (excO C hp.objs.size) := by heap_get
  have hnx : K.lookup (hp.objs.size + 1) = none := by
    cases e : K.lookup (hp.objs.size + 1) with
    | none => rfl
    | some o =>
      have z : hp.get? (hp.objs.size + 1) = some o := X _ _ e
      exact absurd (Nat.lt_of_succ_lt (Heap.lt_size z)) (Nat.lt_irrefl _)
  refine call_own F.excBase_ValueError (fun X => refsVE_contains X bm hbm) (X _ _ hC) (looks_findIn X T.iC) (fun self => bind_fn X self T.tC) (one_size v) ?_
  refine err_init (s := ⟨(hp.push (kdv_tup [v])).push (excO C hp.objs.size), g, dr, tk, os⟩) T (X.keeps k) (hlim.keeps k) (hg.keeps k) (hb.keeps k) hbb hget hnx ?_ fun h' tk' dx t1 ⟨k', hx, dn, dne, hns⟩ => ?_
  · show A.depth + 1 < recursionLimit
    exact hroom
  · have old : ∀ b o, hp.get? b = some o → h'.get? b = some o := fun b o e => k' b o (Nat.ne_of_lt (Nat.lt_succ_of_lt (Heap.lt_size e))) (k b o e)
    have z : hp.objs.size + 1 + 1 ≤ dx := by
      first
        | (simpa only [Heap.size_push] using dn)
        | exact dn
        | (have q := dn; rw [Heap.size_push, Heap.size_push] at q; exact q)
    exact ⟨rfl, hq h' tk' (hp.objs.size + 1) dx ⟨old, Nat.le_succ _, ⟨_, _, hx, rfl, rfl, rfl, rfl⟩, Nat.le_trans (Nat.le_trans (Nat.le_succ _) (Nat.le_succ _)) z, dne, hns⟩⟩
end
end EBS
end PySem
namespace L2
namespace EBS
open PySem PySem.Spec PyProof.Rows
theorem relO_err {v : V} {v' : Value} (r : RelV v v') (f : Str) : RelO (List.lookup f [(("index" : Str), v)]) (if f = "index" then some v' else none) := by
  by_cases hw : f = "index"
  · subst hw
    rw [if_pos rfl]
    have q : List.lookup ("index" : Str) [(("index" : Str), v)] = some v := by simp [List.lookup]
    rw [q]
    exact r
  · rw [if_neg hw]
    have qw : (f == ("index" : Str)) = false := by simpa using hw
    have q2 : List.lookup f [(("index" : Str), v)] = none := by simp [List.lookup, qw]
    rw [q2]
    trivial
section
variable {X : Cx} {C fI : Addr}
/-- the error made of e -/
def tMkE (C : Addr) (ta : TA) : St → Hp → XK → Prop := fun σ H Q => ta σ H fun vs H1 => ∃ v, vs = [v] ∧ ∀ d, H1 d = none → Q (.ref C) (some d) (upd H1 d (.xd [(("index" : Str), v)]))
theorem pmk_err {a : Expr} {ta : TA} {p pos : Pos} {k : Nat} (T : PySem.EBS.ErrTxt X.prog X.K X.mg C fI) (hr : Room k X.A) (ha : PA X [a] ta) (hg : Gl X "BadForms" := by rfl)
    (he : starEach (a :: []) X.env = (false, eval a X.env) :: starEach [] X.env := by rfl) (hpl : (backTo pos (starEach [] X.env)).any (·.1) = false := by rfl) :
    PMk X (.Call (.Name "BadForms" p) [a] [] pos) (tMkE C ta) := by
  intro pins s σ H Q I h
  refine wpAny_Call_Name_kw (ld_glob I hg T.gC ?_)
  refine PySem.W.callWith_K (h₀ := X.base) I.ok.mod.kin T.kC (thn (ha.run pos pins s σ H _ I h) fun us s1 hh => ?_) he hpl
  obtain ⟨vs, H1, I1, r1, v, ev, q1⟩ := hh
  subst ev
  refine ⟨I1.kIn, ?_⟩
  cases r1 with
  | cons rv rn =>
    rename_i v' us'
    cases rn
    show wpAny _ _ (call (.ref C) [v']) _ _ _
    have hlim := I1.nolimit
    obtain ⟨mb, hmb, hbb⟩ := I1.ok.mod.blt
    obtain ⟨hp, g, dr, tk, os⟩ := s1
    refine wpAny_call (PySem.EBS.err_made T I1.kIn hlim (I1.ok.mod.glob.keeps I1.bk) (hmb.keeps I1.bk) hbb (by have := hr.dp; omega) fun h' tk' e d M => ?_)
    show MkP X pins σ Q (.ref e) ⟨h', g, dr, tk', os⟩
    obtain ⟨oe, fv, hoe, hc, hd, hdat, h1⟩ := M.obj
    have hns := M.ns
    obtain ⟨G', g1, g2⟩ := restrict h' fun b => decide (b ≠ e)
    have gk : ∀ b, b ≠ e → G'.get? b = h'.get? b := fun b hb => g1 b (decide_eq_true hb)
    have ge : G'.get? e = none := g2 e (by simp)
    have old : ∀ b o, hp.get? b = some o → G'.get? b = some o := fun b o q => (gk b (Nat.ne_of_lt (Nat.lt_of_lt_of_le (Heap.lt_size q) M.new))).trans (M.keep b o q)
    have ob : ObjOk X.prog X.w (upd H1 d (.xd [(("index" : Str), v)])) G' d (.xd [(("index" : Str), v)]) :=
      ⟨_, hns.at (fun o q => (gk d M.dne).trans q), fun f => relO_err rv f⟩
    have J : Inv X pins σ (upd H1 d (.xd [(("index" : Str), v)])) ⟨G', g, dr, tk', os⟩ := I1.laid (t' := tk') old M.dbig ob
    refine ⟨e, oe, fv, ⟨G', g, dr, tk', os⟩, _, .ref C, some d, rfl, J, fun b o q => ?_, ge, hoe, ⟨hc, hd⟩, hdat, h1, ?_, rfl, I1.bare, raises_own T.exC T.tyC, q1 d (I1.hok.fresh M.dbig)⟩
    · by_cases hb : b = e
      · have q' : G'.get? b = some o := q
        rw [hb, ge] at q'; cases q'
      · exact (gk b hb).symm.trans q
    · rw [upd_ne (Ne.symm M.dne)]
      exact I1.hok.fresh M.new
/-- raise E(e) -/
def tRaiseE (C : Addr) (W : WX) (ta : TA) : TS := fun _ σ H => tMkE C ta σ H fun cls d H' => W cls d σ H'
theorem ps_raiseE {a : Expr} {ta : TA} {W : WX} {p pos pos2 : Pos} {k : Nat} (hc : X.calm = true) (T : PySem.EBS.ErrTxt X.prog X.K X.mg C fI) (hr : Room k X.A) (tk : Takes X W) (ha : PA X [a] ta) (hg : Gl X "BadForms" := by rfl)
    (he : starEach (a :: []) X.env = (false, eval a X.env) :: starEach [] X.env := by rfl) (hpl : (backTo pos (starEach [] X.env)).any (·.1) = false := by rfl) :
    PS X (.Raise (some (.Call (.Name "BadForms" p) [a] [] pos)) none pos2) (tRaiseE C W ta) := ps_raise hc tk (pmk_err T hr ha hg he hpl)
/-- e.f, e the exception that the suite holds (at a; its class cls, its dict d) -/
def tByE (C : Addr) (a : Addr) (cls : Value) (d : Option Addr) (te : TE) : TE := fun σ H Q => te σ H fun x H1 => x = .ref a ∧ cls = .ref C ∧ ∃ (dd : Addr) (v : V), d = some dd ∧ H1 dd = some (.xd [(("index" : Str), v)]) ∧ Q v H1
theorem pe_byE {a : Addr} {oe : Obj} {cls : Value} {d : Option Addr} {pn : List (Addr × Obj)} {e : Expr} {te : TE} {pos : Pos} (T : PySem.EBS.ErrTxt X.prog X.K X.mg C fI) (hz : Zc cls d oe) (hf : ∃ vs, oe.data = .fields vs) (he : PE (X.suite a ((a, oe) :: pn)) e te)
    (hb : attributeBase e "index" X.env (eval e X.env) = eval e X.env := by rfl) :
    PE (X.suite a ((a, oe) :: pn)) (.Attribute e "index" pos) (tByE C a cls d te) := by
  refine ⟨fun pins s σ H Q I h => ?_⟩
  refine attr_of hb (thn (he.run pins s σ H _ I h) fun u s1 hh => ?_)
  obtain ⟨x, H1, I1, rx, ex, ec, dd, v, ed, ea, q⟩ := hh
  subst ex
  obtain rfl : u = Value.ref a := rx
  subst ec
  subst ed
  obtain ⟨ha, _⟩ := I1.pin (a, oe) (List.mem_append_left _ List.mem_cons_self)
  obtain ⟨vs, hd⟩ := hf
  have hx : ObjOk X.prog X.w H1 s1.heap dd (.xd [(("index" : Str), v)]) := I1.hok dd _ ea
  obtain ⟨mA, hns, hr⟩ := hx
  obtain ⟨od, ho, hl⟩ := lookIn_ns hns
  have l : List.lookup ("index" : Str) [(("index" : Str), v)] = some v := by simp [List.lookup]
  obtain ⟨u, hu, ru⟩ := RelO.some_of (v := v) (o := mA "index") (by rw [← l]; exact hr "index")
  have J : PySem.W.InstAt s1.heap a oe C (some od) := ⟨ha, hz.1, by unfold PySem.W.notCls; rw [hd] <;> rfl, by rw [hz.2]; exact ho⟩
  exact HandSPX.exc_get I1.kIn J T.ga T.gg T.exC (PySem.W.findObj_own T.hdC T.noN rfl (by rw [hl, hu])) (handed_of ru) ⟨v, H1, I1.tok _, ru, q⟩
end
end EBS
end L2
set_option Elab.async false
set_option linter.all false
set_option maxRecDepth 100000
set_option maxHeartbeats 4000000
set_option exponentiation.threshold 20000
namespace KX
open PySem PySem.Spec PyProof.Rows L2
/-- what the top has written of the errors' classes -/
structure TxE (P : Program) (K : PySem.W.Frag) (mg : Str → Option Value) where
  CF : Addr
  fF : Addr
  CS : Addr
  fS : Addr
  bf : PySem.EBF.ErrTxt P K mg CF fF
  bs : PySem.EBS.ErrTxt P K mg CS fS
  sf : PySem.W.exmOne K (.ref CS) (.ref CF) = some false
def QErr (H : Hp) (E : XK) (C : Addr) (f : Str) (v : V) : Prop := ∀ dd H', Same H H' → H dd = none → H' dd = some (.xd [(f, v)]) → E (.ref C) (some dd) H'
theorem for_enumS {K : PySem.W.Frag} {a : Addr} {xs : List V} {g : TG} {tb : TS} {D : Ends} {σ : L2.St} {H0 H : Hp} (Pv : Nat → L2.St → Hp → Prop) (hS : Sq K H0 a xs) (h0 : Pv 0 σ H) (hl : ∀ i σ H', i ≤ xs.length → Pv i σ H' → Same H0 H')
    (hs : ∀ i x T σ H', xs[i]? = some x → Pv i σ H' → H' T = none → g (.ref T) σ (upd H' T (.tup [.int (i : Nat), x])) fun σ2 H2 => tb { D with nx := Pv (i + 1), ct := Pv (i + 1), bk := D.nx } σ2 H2) (hd : ∀ σ H', Pv xs.length σ H' → D.nx σ H') :
    (SqL K H a xs ∧ ∃ W : Nat → Nat → L2.St → Hp → Prop, (∃ m, W 0 m σ H) ∧ ∀ i m σ H, W i m σ H → ((Ite K a).stop i H ∧ D.nx σ H) ∨ ((Ite K a).go i H ∧ ∃ N : L2.St → Hp → Prop, (∀ σ' H', N σ' H' → ∃ m', m' < m ∧ W (i + 1) m' σ' H') ∧
      ∀ x H', (Ite K a).yld i H x H' → g x σ H' fun σ2 H2 => tb { D with nx := N, ct := N, bk := D.nx } σ2 H2)) ∨
    (SqT K H a xs ∧ ∃ W : Nat → Nat → L2.St → Hp → Prop, (∃ m, W 0 m σ H) ∧ ∀ i m σ H, W i m σ H → ((IteT K a).stop i H ∧ D.nx σ H) ∨ ((IteT K a).go i H ∧ ∃ N : L2.St → Hp → Prop, (∀ σ' H', N σ' H' → ∃ m', m' < m ∧ W (i + 1) m' σ' H') ∧
      ∀ x H', (IteT K a).yld i H x H' → g x σ H' fun σ2 H2 => tb { D with nx := N, ct := N, bk := D.nx } σ2 H2)) := by
  rcases hS with hq | hq
  · refine .inl ⟨(hl 0 σ H (Nat.zero_le _) h0).seq hq, fun i m σ H' => m = xs.length - i ∧ i ≤ xs.length ∧ Pv i σ H', ⟨_, rfl, Nat.zero_le _, h0⟩, ?_⟩
    rintro i m σ H' ⟨rfl, hi, p⟩
    have q := (hl i σ H' hi p).seq hq
    by_cases hlt : i < xs.length
    · refine .inr ⟨⟨xs, xs[i], q, by simp [hlt]⟩, Pv (i + 1), fun σ' H'' p' => ⟨xs.length - (i + 1), by omega, rfl, hlt, p'⟩, fun x H'' y => ?_⟩
      obtain ⟨T, z, rfl, nT, rfl, hz⟩ := y
      exact hs i z T σ H' (hz xs q) p nT
    · obtain rfl : i = xs.length := by omega
      exact .inl ⟨⟨xs, q, Nat.le_refl _⟩, hd σ H' p⟩
  · refine .inr ⟨(hl 0 σ H (Nat.zero_le _) h0).sqT hq, fun i m σ H' => m = xs.length - i ∧ i ≤ xs.length ∧ Pv i σ H', ⟨_, rfl, Nat.zero_le _, h0⟩, ?_⟩
    rintro i m σ H' ⟨rfl, hi, p⟩
    have q := (hl i σ H' hi p).sqT hq
    by_cases hlt : i < xs.length
    · refine .inr ⟨⟨xs, xs[i], q, by simp [hlt]⟩, Pv (i + 1), fun σ' H'' p' => ⟨xs.length - (i + 1), by omega, rfl, hlt, p'⟩, fun x H'' y => ?_⟩
      obtain ⟨T, z, rfl, nT, rfl, hz⟩ := y
      exact hs i z T σ H' (hz xs q) p nT
    · obtain rfl : i = xs.length := by omega
      exact .inl ⟨⟨xs, q, Nat.le_refl _⟩, hd σ H' p⟩
section
variable {P : Program} {w : World} {K : PySem.W.Frag} {mg : Str → Option Value} {base : Heap}
def spChecked (K : PySem.W.Frag) (CF : Addr) : Sp := fun vs H Q E => ∃ (v : V) (d : PyData), vs = [v] ∧ Dat K H v d ∧
  ((∃ f, FormOf d f ∧ ∀ v' H', Same H H' → FmV K H' v' f → Q v' H') ∨ (isFormD d = false ∧ QErr H E CF "thing" v))
/-- (frac_of(x), frac_of(y)) of a form at a -/
theorem form_parts {H : Hp} {v : V} {d : PyData} {f : Rat × Rat} (hd : Dat K H v d) (hf : FormOf d f) : ∃ a x y dx dy, v = .ref a ∧ Sq K H a [x, y] ∧ Dat K H x dx ∧ Dat K H y dy ∧ FracOf dx f.1 ∧ FracOf dy f.2 := by
  obtain ⟨dx, dy, e, h1, h2⟩ := hf
  obtain ⟨a, xs, rfl, hx, hall⟩ := dat_seq hd e
  cases hall with
  | cons q t =>
    cases t with
    | cons q2 t =>
      cases t
      exact ⟨a, _, _, dx, dy, rfl, hx, q, q2, h1, h2⟩
theorem ok_checked_form (T : Txt K mg) (U : TxE P K mg) : FnOk P w K mg base (L2.CX P w) 4 T.checked_form.f T.checked_form.fd ["thing"] (spChecked K U.CF) := by
  refine T.checked_form.F.okX sc_checked_form (fun vs H Q E h => ?_) (fun cdv A outer s H vs Q E hr h => ?_)
  · obtain ⟨v, d, rfl, _⟩ := h
    rfl
  · obtain ⟨v, d, rfl, hd, h⟩ := h
    refine ⟨_, (pss_cons (ps_if (pt_not (pt_val (pe_call (ok_is_form T) (hr.mono (by decide)) (by rfl) T.is_form.g T.is_form.F.kp T.is_form.b .nil pass0 (pa_cons (pv 0) pa_nil)))) (pss_one (EBF.ps_raiseE rfl U.bf hr (takes_of rfl rfl rfl rfl) (pa_cons (pv 0) pa_nil))) pss_nil)
      (pss_one (ps_ret (pe_tup (pa_cons (pe_call (ok_frac_of T) (hr.mono (by decide)) (by rfl) T.frac_of.g T.frac_of.F.kp T.frac_of.b .nil pass0 (pa_cons (pe_ix ix_seq (pv 0) pe_int (fun _ _ => rfl)) pa_nil)) (pa_cons (pe_call (ok_frac_of T) (hr.mono (by decide)) (by rfl) T.frac_of.g T.frac_of.F.kp T.frac_of.b .nil pass0 (pa_cons (pe_ix ix_seq (pv 0) pe_int (fun _ _ => rfl)) pa_nil)) pa_nil)))))), ?_⟩
    refine ⟨_, rfl, _, _, rfl, hd, fun H1 s1 => ⟨_, rfl, ?_⟩⟩
    rcases h with ⟨f, hf, k⟩ | ⟨hb, k⟩
    · rw [hf.is]
      refine iteF ?_
      obtain ⟨a, x, y, dx, dy, rfl, hx, h1, h2, f1, f2⟩ := form_parts (hd.k s1) hf
      refine ⟨_, rfl, ix_at hx rfl ⟨_, _, _, rfl, h1, f1, fun p np => ?_⟩⟩
      have s2 := same_upd (o := .tup (frV f.1)) np
      refine ⟨_, rfl, ix_at (hx.keep s2) rfl ⟨_, _, _, rfl, h2.k s2, f2, fun q nq => ⟨sz2, fun t nt => ?_⟩⟩⟩
      have s3 := same_upd (o := .tup (frV f.2)) nq
      have s4 := same_upd (o := .tup [V.ref p, V.ref q]) nt
      exact k _ _ (s1.trans (s2.trans (s3.trans s4))) ⟨t, _, _, rfl, .inl (.inl upd_same), Fr.new.keep (.of (s3.trans s4)), Fr.new.keep (.of s4)⟩
    · rw [hb]
      refine iteT ?_
      exact ⟨_, rfl, _, rfl, fun dd nd => k dd _ (s1.trans (same_upd nd)) (s1.free nd) upd_same⟩
/-- the cases of a list of forms -/
def FormsCase (K : PySem.W.Frag) (CS : Addr) (H : Hp) (d : PyData) (E : XK) (good : List (Rat × Rat) → Prop) : Prop :=
  (∃ ds fs, seqD d = some ds ∧ ds ≠ [] ∧ Paired FormOf ds fs ∧ ds.length ≤ 999 ∧ good fs) ∨
  ((seqD d = none ∨ seqD d = some []) ∧ QErr H E CS "index" (.int 0)) ∨
  (∃ ds bad fs, seqD d = some ds ∧ Paired FormOf (ds.take fs.length) fs ∧ ds[fs.length]? = some bad ∧ isFormD bad = false ∧ ds.length ≤ 999 ∧ QErr H E CS "index" (.int (fs.length : Nat)))
def spCheckeds (K : PySem.W.Frag) (CS : Addr) : Sp := fun vs H Q E => ∃ (v : V) (d : PyData), vs = [v] ∧ Dat K H v d ∧
  FormsCase K CS H d E fun fs => ∀ r H' ys, Same H H' → H r = none → H' r = some (.lst ys) → Paired (FmV K H') ys fs → Q (.ref r) H'
theorem ok_checked_forms (T : Txt K mg) (U : TxE P K mg) : FnOk P w K mg base (L2.CX P w) 4 T.checked_forms.f T.checked_forms.fd ["thing"] (spCheckeds K U.CS) := by
  refine T.checked_forms.F.okX sc_checked_forms (fun vs H Q E h => ?_) (fun cdv A outer s H vs Q E hr h => ?_)
  · obtain ⟨v, d, rfl, _⟩ := h
    rfl
  · obtain ⟨v, d, rfl, hd, h⟩ := h
    refine ⟨_, (pss_cons (ps_if (PW.pt (pw_or (pt_not (pt_val (pe_call (ok_is_list T) (hr.mono (by decide)) (by rfl) T.is_list.g T.is_list.F.kp T.is_list.b .nil pass0 (pa_cons (pv 0) pa_nil)))) (pw_or1 (pt_cmpR op_eq (pe_callB call_len_seq (by rfl) T.m_len PySem.boot_len (pa_cons (pv 0) pa_nil)) pe_int (nomark _))))) (pss_one (EBS.ps_raiseE rfl U.bs hr (takes_of rfl rfl rfl rfl) (pa_cons pe_int pa_nil))) pss_nil)
      (pss_cons (ps_set (i := 1) sc_checked_forms.nd rfl (Or.inl rfl) (pe_lst pa_nil))
      (pss_cons (ps_for (passes_of rfl) rfl (pi_enumS (by rfl) T.m_enumerate (pa_cons (pv 0) pa_nil)) (pg_tup rfl (pgs_cons (pg_name (i := 2) sc_checked_forms.nd rfl (Or.inl rfl)) (pgs_cons (pg_name (i := 3) sc_checked_forms.nd rfl (Or.inl rfl)) pgs_nil))) (pss_cons (ps_if (pt_not (pt_val (pe_call (ok_is_form T) (hr.mono (by decide)) (by rfl) T.is_form.g T.is_form.F.kp T.is_form.b .nil pass0 (pa_cons (pv 3) pa_nil)))) (pss_one (EBS.ps_raiseE rfl U.bs hr (takes_of rfl rfl rfl rfl) (pa_cons (pv 2) pa_nil))) pss_nil)
      (pss_one (ps_expr (pe_bm PySem.F.plainAttrs_list PySem.F.slot_list_append PySem.F.type_list_append mt_append (pv 1) (pa_cons (pe_tup (pa_cons (pe_call (ok_frac_of T) (hr.mono (by decide)) (by rfl) T.frac_of.g T.frac_of.F.kp T.frac_of.b .nil pass0 (pa_cons (pe_ix ix_seq (pv 3) pe_int (fun _ _ => rfl)) pa_nil)) (pa_cons (pe_call (ok_frac_of T) (hr.mono (by decide)) (by rfl) T.frac_of.g T.frac_of.F.kp T.frac_of.b .nil pass0 (pa_cons (pe_ix ix_seq (pv 3) pe_int (fun _ _ => rfl)) pa_nil)) pa_nil))) pa_nil))))))
      (pss_one (ps_ret (pv 1)))))), ?_⟩
    refine ⟨_, rfl, _, _, rfl, hd, fun H1 s1 => ⟨_, rfl, ?_⟩⟩
    unfold isListD
    cases e : seqD d with
    | none =>
      refine iteT (iteT ?_)
      rcases h with ⟨ds, fs, e2, _⟩ | ⟨_, k⟩ | ⟨ds, bad, fs, e2, _⟩
      · rw [e] at e2; cases e2
      · exact ⟨_, rfl, fun dd nd => k dd _ (s1.trans (same_upd nd)) (s1.free nd) upd_same⟩
      · rw [e] at e2; cases e2
    | some ds =>
      refine iteF ?_
      obtain ⟨a, xs, rfl, hx, hall⟩ := dat_seq (hd.k s1) e
      have el : xs.length = ds.length := hall.length
      refine ⟨_, rfl, _, _, rfl, hx, rfl, _, rfl, ?_⟩
      rw [show (V.int 0) = V.int ((0 : Nat) : Int) from rfl, len2, el]
      refine ite2 (fun hc => ?_) (fun hc => ?_)
      · have hz : ds = [] := List.length_eq_zero_iff.mp (of_decide_eq_true hc)
        subst hz
        rcases h with ⟨ds, fs, e2, hne, _⟩ | ⟨_, k⟩ | ⟨ds, bad, fs, e2, _, hbad, _⟩
        · rw [e] at e2; cases e2; exact absurd rfl hne
        · exact ⟨_, rfl, fun dd nd => k dd _ (s1.trans (same_upd nd)) (s1.free nd) upd_same⟩
        · rw [e] at e2; cases e2; simp at hbad
      · have hne : ds ≠ [] := fun z => hc (decide_eq_true (by rw [z]; rfl))
        -- found = [], the loop
        refine ⟨Nat.zero_le _, fun r nr => ?_⟩
        have s2 := same_upd (o := .lst []) nr
        obtain ⟨fs, hfs, hlen, hend⟩ : ∃ fs : List (Rat × Rat), Paired FormOf (ds.take fs.length) fs ∧ ds.length ≤ 999 ∧
            ((fs.length = ds.length ∧ ∀ r H' ys, Same H H' → H r = none → H' r = some (.lst ys) → Paired (FmV K H') ys fs → Q (.ref r) H') ∨
              ∃ bad, ds[fs.length]? = some bad ∧ isFormD bad = false ∧ QErr H E U.CS "index" (.int (fs.length : Nat))) := by
          rcases h with ⟨ds', fs, e2, _, hp, hl, k⟩ | ⟨z, k⟩ | ⟨ds', bad, fs, e2, hp, hbad, hb, hl, k⟩
          · rw [e] at e2
            cases e2
            have := Paired.length hp
            exact ⟨fs, by rw [← this, List.take_length]; exact hp, hl, .inl ⟨this.symm, k⟩⟩
          · rcases z with z | z
            · rw [e] at z; cases z
            · rw [e] at z; cases z; exact absurd rfl hne
          · rw [e] at e2
            cases e2
            exact ⟨fs, hp, hl, .inr ⟨bad, hbad, hb, k⟩⟩
        have hfl : fs.length ≤ ds.length := by
          have := Paired.length hfs
          rw [List.length_take] at this
          omega
        refine ⟨_, rfl, a, xs, rfl, for_enumS (K := K) (a := a) (xs := xs) (H0 := H1) (fun i σ H' => i ≤ fs.length ∧ Same H1 H' ∧ ∃ ys y2 y3, σ = [some (.ref a), some (.ref r), y2, y3] ∧ H' r = some (.lst ys) ∧ Paired (FmV K H') ys (fs.take i))
          hx ⟨Nat.zero_le _, s2, [], none, none, rfl, upd_same, .nil⟩ (fun i σ H' _ ⟨_, eS, _⟩ => eS) ?_ ?_⟩
        · rintro i x Tp σ H2 hi ⟨hif, eS, ys, y2, y3, rfl, hr1, hys⟩ nT
          have sT := same_upd (o := .tup [V.int (i : Nat), x]) nT
          obtain ⟨dx, hdi, hdx⟩ := DatAll.get hall hi
          refine ⟨Tp, _, rfl, .inl (.inl upd_same), rfl, _, _, rfl, _, _, rfl, rfl, ?_⟩
          refine ⟨_, rfl, _, _, rfl, (hdx.k eS).k sT, fun H3 s3 => ⟨_, rfl, ?_⟩⟩
          have sH := eS.trans (sT.trans s3)
          by_cases hlt : i < fs.length
          · obtain ⟨f, hf⟩ : ∃ f, fs[i]? = some f := ⟨fs[i], by simp [hlt]⟩
            obtain ⟨dx', hdx', ff⟩ := Paired.get' hfs hf
            have edx : dx' = dx := by
              rw [List.getElem?_take_of_lt hlt] at hdx'
              exact Option.some.inj (hdx'.symm.trans hdi)
            subst edx
            rw [ff.is]
            refine iteF ?_
            obtain ⟨ax, p, q, dp, dq, rfl, hpq, h1, h2, f1, f2⟩ := form_parts (hdx.k sH) ff
            have hr3 := (sT.trans s3) _ _ hr1
            refine ⟨_, rfl, .inl ⟨rfl, _, SqL.of hr3⟩, _, rfl, ix_at hpq rfl ⟨_, _, _, rfl, h1, f1, fun t1 n1 => ?_⟩⟩
            have s4 := same_upd (o := .tup (frV f.1)) n1
            refine ⟨_, rfl, ix_at (hpq.keep s4) rfl ⟨_, _, _, rfl, h2.k s4, f2, fun t2 n2 => ⟨sz2, fun t3 n3 => ?_⟩⟩⟩
            have s5 := same_upd (o := .tup (frV f.2)) n2
            have s6 := same_upd (o := .tup [V.ref t1, V.ref t2]) n3
            have s46 := s4.trans (s5.trans s6)
            have hr6 := s46 _ _ hr3
            have hylen := Paired.length hys
            rw [List.length_take] at hylen
            refine ⟨r, ys, _, rfl, rfl, hr6, small1000 (by omega), by omega, ?_, _, _, _, rfl, upd_same, ?_⟩
            · intro b o hb
              have nb : b ≠ r := ne_of_none hb nr
              rw [upd_ne nb]
              exact s46 _ _ (sH _ _ hb)
            · rw [take_more hf]
              have t7 := tups_lst (o := .lst (ys ++ [V.ref t3])) hr6
              refine Paired.append (Paired.imp (fun v g h => (h.keep (.of (sT.trans (s3.trans s46)))).keep t7) hys) (Paired.one ?_)
              exact ⟨t3, _, _, rfl, t7.sqT (.inl (.inl upd_same)), (Fr.new.keep (.of (s5.trans s6))).keep t7, (Fr.new.keep (.of s6)).keep t7⟩
          · have ei : i = fs.length := by omega
            rcases hend with ⟨hl, _⟩ | ⟨bad, hbad, hb, k⟩
            · have := (List.getElem?_eq_some_iff.mp hdi).1
              omega
            · rw [← ei] at hbad k
              have edx : dx = bad := Option.some.inj (hdi.symm.trans hbad)
              rw [edx, hb]
              refine iteT ?_
              exact ⟨_, rfl, _, rfl, fun dd nd => k dd _ (s1.trans (sH.trans (same_upd nd))) ((s1.trans sH).free nd) upd_same⟩
        · rintro σ H2 ⟨hif, eS, ys, y2, y3, rfl, hr1, hys⟩
          rw [el] at hif hys
          refine ⟨_, rfl, ?_⟩
          rcases hend with ⟨hl, k⟩ | ⟨bad, hbad, hb, k⟩
          · refine k r H2 ys (s1.trans eS) (s1.free nr) hr1 ?_
            rw [← hl, List.take_length] at hys
            exact hys
          · have := (List.getElem?_eq_some_iff.mp hbad).1
            omega
end
end KX
set_option Elab.async false
set_option linter.all false
set_option maxRecDepth 100000
set_option maxHeartbeats 4000000
set_option exponentiation.threshold 20000
namespace KX
open PySem PySem.Spec PyProof.Rows L2
section
variable {P : Program} {w : World} {K : PySem.W.Frag} {mg : Str → Option Value} {base : Heap}
/-- a new list of pieces -/
def QPcs (K : PySem.W.Frag) (H : Hp) (Q : VK) (ps : List KM.Piece) : Prop := ∀ r H' ys, Same H H' → H r = none → H' r = some (.lst ys) → Paired (PcV K H') ys ps → Q (.ref r) H'
def outlAll (fs : List (Rat × Rat)) : List KM.Piece := KM.outl fs (fs.length + 1) 0 true
theorem forms_sz {ds : List PyData} {fs : List (Rat × Rat)} (h : Paired FormOf ds fs) : ∀ f ∈ fs, SzF 240 f := by
  induction h with
  | nil => intro f hf; cases hf
  | cons r t ih =>
    intro f hf
    rcases List.mem_cons.mp hf with e | hf
    · rw [e]; exact FormOf.sz r
    · exact ih f hf
theorem forms_ne {ds : List PyData} {fs : List (Rat × Rat)} (h : Paired FormOf ds fs) (hne : ds ≠ []) : fs ≠ [] := by
  cases h with
  | nil => exact absurd rfl hne
  | cons r t => simp
def spGreatest (K : PySem.W.Frag) (CS : Addr) : Sp := fun vs H Q E => ∃ (v : V) (d : PyData), vs = [v] ∧ Dat K H v d ∧ FormsCase K CS H d E fun fs => QPcs K H Q (outlAll fs)
theorem ok_greatest_form (T : Txt K mg) (U : TxE P K mg) : FnOk P w K mg base (L2.CX P w) 6 T.greatest_form.f T.greatest_form.fd ["forms"] (spGreatest K U.CS) := by
  refine T.greatest_form.F.okX sc_greatest_form (fun vs H Q E h => ?_) (fun cdv A outer s H vs Q E hr h => ?_)
  · obtain ⟨v, d, rfl, _⟩ := h
    rfl
  · obtain ⟨v, d, rfl, hd, h⟩ := h
    refine ⟨_, (pss_one (ps_ret (pe_call (ok_outline_of T) (hr.mono (by decide)) (by rfl) T.outline_of.g T.outline_of.F.kp T.outline_of.b .nil pass0 (pa_cons (pe_call (ok_checked_forms T U) (hr.mono (by decide)) (by rfl) T.checked_forms.g T.checked_forms.F.kp T.checked_forms.b .nil (passes_call (takes_of rfl rfl rfl rfl) (fun _ _ _ _ h => h)) (pa_cons (pv 0) pa_nil)) pa_nil)))), ?_⟩
    refine ⟨_, rfl, v, d, rfl, hd, ?_⟩
    rcases h with ⟨ds, fs, e, hne, hp, hl, k⟩ | ⟨e, k⟩ | ⟨ds, bad, fs, e, hp, hb, hf, hl, k⟩
    · refine .inl ⟨ds, fs, e, hne, hp, hl, fun r H' ys s1 nr hr1 hys => ?_⟩
      have := Paired.length hp
      exact ⟨r, ys, fs, rfl, SqL.of hr1, hys, forms_ne hp hne, forms_sz hp, by omega, fun r2 H2 ys2 s2 nr2 h2 hys2 => k r2 H2 ys2 (s1.trans s2) (s1.free nr2) h2 hys2⟩
    · exact .inr (.inl ⟨e, k⟩)
    · exact .inr (.inr ⟨ds, bad, fs, e, hp, hb, hf, hl, k⟩)
def negF (f : Rat × Rat) : Rat × Rat := (-f.1, -f.2)
theorem sub_neg (f : Rat × Rat) : KM.subF (0, 0) f = negF f := by
  unfold KM.subF negF
  have h1 : (0 : Rat) - f.1 = -f.1 := by grind
  have h2 : (0 : Rat) - f.2 = -f.2 := by grind
  show ((0 : Rat) - f.1, (0 : Rat) - f.2) = _
  rw [h1, h2]
theorem neg_sz {n : Nat} {f : Rat × Rat} (h : SzF n f) : SzF n (negF f) := ⟨h.1.neg, h.2.neg⟩
def negP (p : KM.Piece) : KM.Piece := ⟨p.low, p.isin, p.high, negF p.form⟩
def leastAll (fs : List (Rat × Rat)) : List KM.Piece := (outlAll (fs.map negF)).map negP
theorem outl_form {fs : List (Rat × Rat)} (hne : fs ≠ []) : ∀ (n : Nat) (s : Rat) (c : Bool), ∀ p ∈ KM.outl fs n s c, p.form ∈ fs := by
  intro n
  induction n with
  | zero => intro s c p hp; cases hp
  | succ n ih =>
    intro s c p hp
    unfold KM.outl at hp
    split at hp
    · rw [List.mem_singleton] at hp
      rw [hp]
      exact (KM.bestOf_top hne s).mem
    · rcases List.mem_cons.mp hp with e | hp
      · rw [e]
        exact (KM.bestOf_top hne s).mem
      · exact ih _ _ p hp
theorem zeroform (T : Txt K mg) {H : Hp} {p : Addr} (h : SqT K H p [V.ref T.ZERO.f, V.ref T.ZERO.f]) : FmV K H (.ref p) (0, 0) := ⟨p, _, _, rfl, h, zero_fr T, zero_fr T⟩
theorem zero_szf {n : Nat} (h : 0 < n) : SzF n ((0 : Rat), (0 : Rat)) := ⟨KM.Sz.zero h, KM.Sz.zero h⟩
theorem ok_least_form (T : Txt K mg) (U : TxE P K mg) : FnOk P w K mg base (L2.CX P w) 6 T.least_form.f T.least_form.fd ["forms"] (fun vs H Q E => ∃ (v : V) (d : PyData), vs = [v] ∧ Dat K H v d ∧ FormsCase K U.CS H d E fun fs => QPcs K H Q (leastAll fs)) := by
  refine T.least_form.F.okX sc_least_form (fun vs H Q E h => ?_) (fun cdv A outer s H vs Q E hr h => ?_)
  · obtain ⟨v, d, rfl, _⟩ := h
    rfl
  · obtain ⟨v, d, rfl, hd, h⟩ := h
    refine ⟨_, (pss_cons (ps_setLc (i := 1) (own := [("form", 2)]) (g := gName 2) (tt := tYes) (by rfl) sc_least_form.nd rfl rfl (sw_true rfl rfl rfl (by decide +kernel)) (pi_list (pe_call (ok_checked_forms T U) (hr.mono (by decide)) (by rfl) T.checked_forms.g T.checked_forms.F.kp T.checked_forms.b .nil (passes_call (takes_of rfl rfl rfl rfl) (fun _ _ _ _ h => h)) (pa_cons (pv 0) pa_nil))) (blkOk_by (own := [("form", 2)]) (N := ["forms", "turned", "form", "stretch"]) (sc := defScope s_least_form) (by decide +kernel)) (fun _ _ _ _ _ => pg_name (i := 2) sc_least_form.nd rfl (Or.inl rfl)) (fun _ _ _ _ _ => pts_nil) (fun _ _ _ _ _ => (pe_call (ok_minus_form T) (hr.mono (by decide)) (by rfl) T.minus_form.g T.minus_form.F.kp T.minus_form.b .nil pass0 (pa_cons (pe_tup (pa_cons (pe_cn (by rfl) T.ZERO.g) (pa_cons (pe_cn (by rfl) T.ZERO.g) pa_nil))) (pa_cons (pv 2) pa_nil)))))
      (pss_one (ps_ret (pe_lc (own := [("stretch", 3), ("form", 2)]) (g := gTup K 2 (gCons (gName 3) (gCons (gName 2) gNil))) (tt := tYes) rfl sc_least_form.nd (pi_list (pe_call (ok_outline_of T) (hr.mono (by decide)) (by rfl) T.outline_of.g T.outline_of.F.kp T.outline_of.b .nil pass0 (pa_cons (pv 1) pa_nil))) (blkOk_by (own := [("stretch", 3), ("form", 2)]) (N := ["forms", "turned", "form", "stretch"]) (sc := defScope s_least_form) (by decide +kernel)) (fun _ _ _ _ _ => pg_tup rfl (pgs_cons (pg_name (i := 3) sc_least_form.nd rfl (Or.inl rfl)) (pgs_cons (pg_name (i := 2) sc_least_form.nd rfl (Or.inl rfl)) pgs_nil))) (fun _ _ _ _ _ => pts_nil) (fun _ _ _ _ _ => (pe_tup (pa_cons (pv 3) (pa_cons (pe_call (ok_minus_form T) (hr.mono (by decide)) (by rfl) T.minus_form.g T.minus_form.F.kp T.minus_form.b .nil pass0 (pa_cons (pe_tup (pa_cons (pe_cn (by rfl) T.ZERO.g) (pa_cons (pe_cn (by rfl) T.ZERO.g) pa_nil))) (pa_cons (pv 2) pa_nil))) pa_nil)))))))), ?_⟩
    refine ⟨_, rfl, v, d, rfl, hd, ?_⟩
    rcases h with ⟨ds, fs, e, hne, hp, hl, k⟩ | ⟨e, k⟩ | ⟨ds, bad, fs, e, hp, hb, hf, hl, k⟩
    · refine .inl ⟨ds, fs, e, hne, hp, hl, fun r H1 ys s1 nr hr1 hys => ?_⟩
      have hds := Paired.length hp
      have hyl := Paired.length hys
      have hz := forms_sz hp
      have hfne := forms_ne hp hne
      -- turned
      refine ⟨r, rfl, ⟨_, SqL.of hr1⟩, fun D nD => lc_list (K := K) (a := r) (xs := ys) (fun i H' => Same H1 H' ∧ ∃ acc, H' D = some (.lst acc) ∧ Paired (FmV K H') acc ((fs.take i).map negF)) ⟨same_upd nD, [], upd_same, .nil⟩ (fun i H' _ ⟨e, _⟩ => e.seq (SqL.of hr1)) ?_ ?_⟩
      · rintro i x H2 hi ⟨eS, acc, hD, hacc⟩
        obtain ⟨f, hf, fx⟩ := Paired.get hys hi
        refine ⟨rfl, sz2, fun t nt => ?_⟩
        have s2 := same_upd (o := .tup [V.ref T.ZERO.f, V.ref T.ZERO.f]) nt
        refine ⟨_, rfl, _, _, _, _, rfl, zeroform T (.inl (.inl upd_same)), (fx.keep (.of eS)).keep (.of s2), zero_szf (by decide), ⟨(hz f (List.mem_of_getElem? hf)).1.mono (by decide), (hz f (List.mem_of_getElem? hf)).2.mono (by decide)⟩, fun v2 H3 s3 hv2 => ?_⟩
        rw [sub_neg] at hv2
        have s23 := s2.trans s3
        have hD3 := s23 _ _ hD
        have hal := Paired.length hacc
        rw [List.length_map, List.length_take] at hal
        refine ⟨acc, hD3, small1000 (by omega), ?_, acc ++ [v2], upd_same, ?_⟩
        · intro b o hb
          rw [upd_ne (ne_of_none hb nD)]
          exact s23 _ _ (eS _ _ hb)
        · rw [take_more hf, List.map_append]
          have t4 := tups_lst (o := .lst (acc ++ [v2])) hD3
          exact Paired.append (Paired.imp (fun a g h => (h.keep (.of s23)).keep t4) hacc) (Paired.one (hv2.keep t4))
      · rintro H2 ⟨eS, acc, hD, hacc⟩
        rw [hyl, List.take_length] at hacc
        have hml : (fs.map negF).length = fs.length := List.length_map ..
        have hmz : ∀ f ∈ fs.map negF, SzF 240 f := fun f hf => by
          obtain ⟨g, hg, rfl⟩ := List.mem_map.mp hf
          exact neg_sz (hz g hg)
        have hmne : fs.map negF ≠ [] := by simpa using hfne
        refine ⟨_, rfl, D, acc, fs.map negF, rfl, SqL.of hD, hacc, hmne, hmz, by omega, fun r3 H3 ys3 s3 nr3 hr3 hys3 => ?_⟩
        have hpl := Paired.length hys3
        have hout : (KM.outl (fs.map negF) ((fs.map negF).length + 1) 0 true).length ≤ 1000 := by
          have : ∀ n s c, (KM.outl (fs.map negF) n s c).length ≤ n := by
            intro n
            induction n with
            | zero => intro s c; exact Nat.le_refl _
            | succ n ih =>
              intro s c
              unfold KM.outl
              split
              · simp
              · rw [List.length_cons]
                have := ih ‹Rat› false
                omega
          have := this ((fs.map negF).length + 1) 0 true
          omega
        have s13 := eS.trans s3
        -- [(stretch, minus_form((ZERO, ZERO), form)) for stretch, form in ..]
        refine ⟨r3, rfl, ⟨_, SqL.of hr3⟩, fun D2 nD2 => lc_list (K := K) (a := r3) (xs := ys3) (fun i H' => Same H3 H' ∧ ∃ acc, H' D2 = some (.lst acc) ∧ Paired (PcV K H') acc (((KM.outl (fs.map negF) ((fs.map negF).length + 1) 0 true).take i).map negP)) ⟨same_upd nD2, [], upd_same, .nil⟩ (fun i H' _ ⟨e, _⟩ => e.seq (SqL.of hr3)) ?_ ?_⟩
        · rintro i x H4 hi ⟨e4, acc2, hD2, hacc2⟩
          obtain ⟨p, hpi, px⟩ := Paired.get hys3 hi
          obtain ⟨q, t, a, hh, b, rfl, hq, ht, ha, hhh, hb⟩ := px.keep (.of e4)
          have pf := hmz _ (outl_form hmne _ _ _ p (List.mem_of_getElem? hpi))
          refine ⟨q, _, rfl, hq, rfl, _, _, rfl, _, _, rfl, rfl, rfl, ?_⟩
          refine ⟨_, rfl, sz2, fun t0 n0 => ?_⟩
          have s5 := same_upd (o := .tup [V.ref T.ZERO.f, V.ref T.ZERO.f]) n0
          refine ⟨_, rfl, _, _, _, _, rfl, zeroform T (.inl (.inl upd_same)), hb.keep (.of s5), zero_szf (by decide), ⟨pf.1.mono (by decide), pf.2.mono (by decide)⟩, fun v6 H6 s6 hv6 => ⟨sz2, fun t7 n7 => ?_⟩⟩
          rw [sub_neg] at hv6
          have s7 := same_upd (o := .tup [V.ref t, v6]) n7
          have s57 := s5.trans (s6.trans s7)
          have hD7 := s57 _ _ hD2
          have hal := Paired.length hacc2
          rw [List.length_map, List.length_take] at hal
          refine ⟨acc2, hD7, small1000 (by omega), ?_, acc2 ++ [V.ref t7], upd_same, ?_⟩
          · intro b o hb
            rw [upd_ne (ne_of_none hb nD2)]
            exact s57 _ _ (e4 _ _ hb)
          · rw [take_more hpi, List.map_append]
            have t8 := tups_lst (o := .lst (acc2 ++ [V.ref t7])) hD7
            refine Paired.append (Paired.imp (fun a g h => (PcV.keep (.of s57) h).keep t8) hacc2) (Paired.one ?_)
            exact ⟨t7, t, _, _, _, rfl, t8.sqT (.inl (.inl upd_same)), t8.sqT (s57.sqT ht), (ha.keep (.of s57)).keep t8, (hhh.keep (.of s57)).keep t8, (hv6.keep (.of s7)).keep t8⟩
        · rintro H4 ⟨e4, acc2, hD2, hacc2⟩
          rw [hpl, List.take_length] at hacc2
          have sA := s1.trans (s13.trans e4)
          exact k D2 H4 acc2 sA ((s1.trans s13).free nD2) hD2 hacc2
    · exact .inr (.inl ⟨e, k⟩)
    · exact .inr (.inr ⟨ds, bad, fs, e, hp, hb, hf, hl, k⟩)
/-- where one is at most, is below another -/
def WhereCase (K : PySem.W.Frag) (CF : Addr) (H : Hp) (v1 v2 : V) (d1 d2 : PyData) (Q : VK) (E : XK) (g : Rat × Rat → Rat × Rat → List KM.Str4) : Prop :=
  (∃ f1 f2, FormOf d1 f1 ∧ FormOf d2 f2 ∧ QStr K H Q (g f1 f2)) ∨ (isFormD d1 = false ∧ QErr H E CF "thing" v1) ∨ (∃ f1, FormOf d1 f1 ∧ isFormD d2 = false ∧ QErr H E CF "thing" v2)
def spWhere (K : PySem.W.Frag) (CF : Addr) (g : Rat × Rat → Rat × Rat → List KM.Str4) : Sp := fun vs H Q E => ∃ (v1 v2 : V) (d1 d2 : PyData), vs = [v1, v2] ∧ Dat K H v1 d1 ∧ Dat K H v2 d2 ∧ WhereCase K CF H v1 v2 d1 d2 Q E g
theorem ok_where_upto (T : Txt K mg) (U : TxE P K mg) : FnOk P w K mg base (L2.CX P w) 6 T.where_upto.f T.where_upto.fd ["one", "other"] (spWhere K U.CF KM.lUpto) := by
  refine T.where_upto.F.okX sc_where_upto (fun vs H Q E h => ?_) (fun cdv A outer s H vs Q E hr h => ?_)
  · obtain ⟨v1, v2, d1, d2, rfl, _⟩ := h
    rfl
  · obtain ⟨v1, v2, d1, d2, rfl, h1, h2, h⟩ := h
    refine ⟨_, (pss_cons (ps_set (i := 2) sc_where_upto.nd rfl (Or.inl rfl) (pe_call (ok_checked_form T U) (hr.mono (by decide)) (by rfl) T.checked_form.g T.checked_form.F.kp T.checked_form.b .nil (passes_call (takes_of rfl rfl rfl rfl) (fun _ _ _ _ h => h)) (pa_cons (pv 0) pa_nil)))
      (pss_one (ps_ret (pe_call (ok_upto_zero T) (hr.mono (by decide)) (by rfl) T.upto_zero.g T.upto_zero.F.kp T.upto_zero.b .nil pass0 (pa_cons (pe_call (ok_minus_form T) (hr.mono (by decide)) (by rfl) T.minus_form.g T.minus_form.F.kp T.minus_form.b .nil pass0 (pa_cons (pv 2) (pa_cons (pe_call (ok_checked_form T U) (hr.mono (by decide)) (by rfl) T.checked_form.g T.checked_form.F.kp T.checked_form.b .nil (passes_call (takes_of rfl rfl rfl rfl) (fun _ _ _ _ h => h)) (pa_cons (pv 1) pa_nil)) pa_nil))) (pa_cons pe_bl pa_nil)))))), ?_⟩
    refine ⟨_, rfl, v1, d1, rfl, h1, ?_⟩
    have cs : (∃ f1, FormOf d1 f1 ∧ ((∃ f2, FormOf d2 f2 ∧ QStr K H Q (KM.lUpto f1 f2)) ∨ (isFormD d2 = false ∧ QErr H E U.CF "thing" v2))) ∨ (isFormD d1 = false ∧ QErr H E U.CF "thing" v1) := by
      rcases h with ⟨f1, f2, hf1, hf2, k⟩ | ⟨hb, k⟩ | ⟨f1, hf1, hb, k⟩
      · exact .inl ⟨f1, hf1, .inl ⟨f2, hf2, k⟩⟩
      · exact .inr ⟨hb, k⟩
      · exact .inl ⟨f1, hf1, .inr ⟨hb, k⟩⟩
    clear h
    rcases cs with ⟨f1, hf1, hc⟩ | ⟨hb, k⟩
    · refine .inl ⟨f1, hf1, fun v' H1 s1 hv' => ?_⟩
      refine ⟨_, rfl, _, rfl, v2, d2, rfl, h2.k s1, ?_⟩
      rcases hc with ⟨f2, hf2, k⟩ | ⟨hb, k⟩
      · refine .inl ⟨f2, hf2, fun v2' H2 s2 hv2' => ?_⟩
        have z1 := hf1.sz
        have z2 := hf2.sz
        refine ⟨_, _, _, _, rfl, hv'.keep (.of s2), hv2', ⟨z1.1.mono (by decide), z1.2.mono (by decide)⟩, ⟨z2.1.mono (by decide), z2.2.mono (by decide)⟩, fun v3 H3 s3 hv3 => ?_⟩
        refine ⟨v3, false, KM.subF f1 f2, rfl, hv3, ⟨(z1.1.sub z2.1).mono (by decide), (z1.2.sub z2.2).mono (by decide)⟩, fun r H4 ys s4 nr hr hys => ?_⟩
        rw [KM.upZero_upto] at hys
        have sA := s1.trans (s2.trans s3)
        exact k r H4 ys (sA.trans s4) (sA.free nr) hr hys
      · exact .inr ⟨hb, fun dd H' s' nd hd => k dd H' (s1.trans s') (s1.free nd) hd⟩
    · exact .inr ⟨hb, k⟩

theorem ok_where_below (T : Txt K mg) (U : TxE P K mg) : FnOk P w K mg base (L2.CX P w) 6 T.where_below.f T.where_below.fd ["one", "other"] (spWhere K U.CF KM.lBelow) := by
  refine T.where_below.F.okX sc_where_below (fun vs H Q E h => ?_) (fun cdv A outer s H vs Q E hr h => ?_)
  · obtain ⟨v1, v2, d1, d2, rfl, _⟩ := h
    rfl
  · obtain ⟨v1, v2, d1, d2, rfl, h1, h2, h⟩ := h
    refine ⟨_, (pss_cons (ps_set (i := 2) sc_where_below.nd rfl (Or.inl rfl) (pe_call (ok_checked_form T U) (hr.mono (by decide)) (by rfl) T.checked_form.g T.checked_form.F.kp T.checked_form.b .nil (passes_call (takes_of rfl rfl rfl rfl) (fun _ _ _ _ h => h)) (pa_cons (pv 0) pa_nil)))
      (pss_one (ps_ret (pe_call (ok_upto_zero T) (hr.mono (by decide)) (by rfl) T.upto_zero.g T.upto_zero.F.kp T.upto_zero.b .nil pass0 (pa_cons (pe_call (ok_minus_form T) (hr.mono (by decide)) (by rfl) T.minus_form.g T.minus_form.F.kp T.minus_form.b .nil pass0 (pa_cons (pv 2) (pa_cons (pe_call (ok_checked_form T U) (hr.mono (by decide)) (by rfl) T.checked_form.g T.checked_form.F.kp T.checked_form.b .nil (passes_call (takes_of rfl rfl rfl rfl) (fun _ _ _ _ h => h)) (pa_cons (pv 1) pa_nil)) pa_nil))) (pa_cons pe_bl pa_nil)))))), ?_⟩
    refine ⟨_, rfl, v1, d1, rfl, h1, ?_⟩
    have cs : (∃ f1, FormOf d1 f1 ∧ ((∃ f2, FormOf d2 f2 ∧ QStr K H Q (KM.lBelow f1 f2)) ∨ (isFormD d2 = false ∧ QErr H E U.CF "thing" v2))) ∨ (isFormD d1 = false ∧ QErr H E U.CF "thing" v1) := by
      rcases h with ⟨f1, f2, hf1, hf2, k⟩ | ⟨hb, k⟩ | ⟨f1, hf1, hb, k⟩
      · exact .inl ⟨f1, hf1, .inl ⟨f2, hf2, k⟩⟩
      · exact .inr ⟨hb, k⟩
      · exact .inl ⟨f1, hf1, .inr ⟨hb, k⟩⟩
    clear h
    rcases cs with ⟨f1, hf1, hc⟩ | ⟨hb, k⟩
    · refine .inl ⟨f1, hf1, fun v' H1 s1 hv' => ?_⟩
      refine ⟨_, rfl, _, rfl, v2, d2, rfl, h2.k s1, ?_⟩
      rcases hc with ⟨f2, hf2, k⟩ | ⟨hb, k⟩
      · refine .inl ⟨f2, hf2, fun v2' H2 s2 hv2' => ?_⟩
        have z1 := hf1.sz
        have z2 := hf2.sz
        refine ⟨_, _, _, _, rfl, hv'.keep (.of s2), hv2', ⟨z1.1.mono (by decide), z1.2.mono (by decide)⟩, ⟨z2.1.mono (by decide), z2.2.mono (by decide)⟩, fun v3 H3 s3 hv3 => ?_⟩
        refine ⟨v3, true, KM.subF f1 f2, rfl, hv3, ⟨(z1.1.sub z2.1).mono (by decide), (z1.2.sub z2.2).mono (by decide)⟩, fun r H4 ys s4 nr hr hys => ?_⟩
        rw [KM.upZero_below] at hys
        have sA := s1.trans (s2.trans s3)
        exact k r H4 ys (sA.trans s4) (sA.free nr) hr hys
      · exact .inr ⟨hb, fun dd H' s' nd hd => k dd H' (s1.trans s') (s1.free nd) hd⟩
    · exact .inr ⟨hb, k⟩

end
end KX
set_option Elab.async false
set_option linter.all false
set_option maxRecDepth 100000
set_option maxHeartbeats 4000000
set_option exponentiation.threshold 20000
namespace KX
open PySem PySem.Spec PyProof.Rows L2
local macro_rules | `(tactic| walk_at "rd") => `(tactic| repeat (first | refine ⟨_, rfl, ?_⟩ | refine ⟨_, _, _, _, rfl, rfl, (by assumption), rfl, ?_⟩ | refine ⟨_, _, rfl, rfl, ?_⟩ | refine ⟨(by first | exact cm_nd (by assumption) (by assumption) | exact cm_nn (by assumption) (by assumption) | exact cm_dn (by assumption) (by assumption) | exact cm_dd (by assumption) (by assumption)), ?_⟩))
theorem fr_neg (q : Rat) : frV (-q) = [V.int (0 - q.num), V.int (q.den : Nat)] := by
  unfold frV
  rw [Rat.neg_num, Rat.neg_den, Int.zero_sub]
theorem fr_0 : frV 0 = [V.int 0, V.int 1] := rfl
theorem fr_1 : frV 1 = [V.int 1, V.int 1] := rfl
section
variable {P : Program} {w : World} {K : PySem.W.Frag} {mg : Str → Option Value} {base : Heap}
theorem root_sz {b f : Rat × Rat} (sb : SzF 240 b) (sf : SzF 240 f) (h : b.2 ≠ f.2) : KM.Sz 1000 (KM.rootUp b f) :=
  ((sb.1.sub sf.1).div (sf.2.sub sb.2) (by grind)).mono (by decide)
def spRoot (K : PySem.W.Frag) : Sp := fun vs H Q _ => ∃ (a b : V) (f g : Rat × Rat), vs = [a, b] ∧ FmV K H a f ∧ FmV K H b g ∧ SzF 240 f ∧ SzF 240 g ∧ f.2 ≠ g.2 ∧ ∀ v H', Same H H' → Fr K H' v (KM.rootUp g f) → Q v H'
theorem ok_L_root (T : Txt K mg) : FnOk P w K mg base CX0 3 T.L_root.f T.L_root.fd ["_law_one", "_law_other"] (spRoot K) := by
  refine T.L_root.F.ok sc_L_root (fun vs H Q E h => ?_) (fun cdv A outer s H vs Q E hr h => ?_)
  · obtain ⟨a, b, f, g, rfl, _⟩ := h
    rfl
  · obtain ⟨_, _, f, g, rfl, ⟨p, a1, a2, rfl, hp, ha1, ha2⟩, ⟨q, b1, b2, rfl, hq, hb1, hb2⟩, sf, sg, hne, k⟩ := h
    refine ⟨_, (pss_cons (ps_set (i := 2) sc_L_root.nd rfl (Or.inl rfl) (pe_call (ok_L_plus T) (hr.mono (by decide)) (by rfl) T.L_plus.g T.L_plus.F.kp T.L_plus.b .nil pass0 (pa_cons (pe_ix ix_tup (pv 1) pe_int (fun _ _ => rfl)) (pa_cons (pe_tup (pa_cons (pe_op op_sub pe_int (pe_ix ix_tup (pe_ix ix_tup (pv 0) pe_int (fun _ _ => rfl)) pe_int (fun _ _ => rfl))) (pa_cons (pe_ix ix_tup (pe_ix ix_tup (pv 0) pe_int (fun _ _ => rfl)) pe_int (fun _ _ => rfl)) pa_nil))) pa_nil))))
      (pss_cons (ps_set (i := 3) sc_L_root.nd rfl (Or.inl rfl) (pe_call (ok_L_plus T) (hr.mono (by decide)) (by rfl) T.L_plus.g T.L_plus.F.kp T.L_plus.b .nil pass0 (pa_cons (pe_ix ix_tup (pv 0) pe_int (fun _ _ => rfl)) (pa_cons (pe_tup (pa_cons (pe_op op_sub pe_int (pe_ix ix_tup (pe_ix ix_tup (pv 1) pe_int (fun _ _ => rfl)) pe_int (fun _ _ => rfl))) (pa_cons (pe_ix ix_tup (pe_ix ix_tup (pv 1) pe_int (fun _ _ => rfl)) pe_int (fun _ _ => rfl)) pa_nil))) pa_nil))))
      (pss_cons (ps_if (pt_cmpR op_lt (pe_ix ix_tup (pv 3) pe_int (fun _ _ => rfl)) pe_int (nomark _)) (pss_one (ps_ret (pe_call (ok_L_lowest T) (hr.mono (by decide)) (by rfl) T.L_lowest.g T.L_lowest.F.kp T.L_lowest.b .nil pass0 (pa_cons (pe_op op_sub pe_int (pe_op op_mulW (pe_ix ix_tup (pv 2) pe_int (fun _ _ => rfl)) (pe_ix ix_tup (pv 3) pe_int (fun _ _ => rfl)))) (pa_cons (pe_op op_sub pe_int (pe_op op_mulW (pe_ix ix_tup (pv 2) pe_int (fun _ _ => rfl)) (pe_ix ix_tup (pv 3) pe_int (fun _ _ => rfl)))) pa_nil))))) pss_nil)
      (pss_one (ps_ret (pe_call (ok_L_lowest T) (hr.mono (by decide)) (by rfl) T.L_lowest.g T.L_lowest.F.kp T.L_lowest.b .nil pass0 (pa_cons (pe_op op_mulW (pe_ix ix_tup (pv 2) pe_int (fun _ _ => rfl)) (pe_ix ix_tup (pv 3) pe_int (fun _ _ => rfl))) (pa_cons (pe_op op_mulW (pe_ix ix_tup (pv 2) pe_int (fun _ _ => rfl)) (pe_ix ix_tup (pv 3) pe_int (fun _ _ => rfl))) pa_nil)))))))), ?_⟩
    obtain ⟨x1, rfl, hx1⟩ := id ha1
    obtain ⟨y2, rfl, hy2⟩ := id hb2
    -- top
    walk_at "rd"
    refine ⟨sz2, fun t nt => ?_⟩
    have s1 := same_upd (o := .tup [V.int (0 - f.1.num), V.int (f.1.den : Nat)]) nt
    have hneg : Fr K (upd H t (.tup [V.int (0 - f.1.num), V.int (f.1.den : Nat)])) (.ref t) (-f.1) := ⟨t, rfl, by rw [fr_neg]; exact .inl (.inl upd_same)⟩
    refine ⟨_, _, _, _, rfl, hb1.keep (.of s1), hneg, sg.1.mono (by decide), sf.1.neg.mono (by decide), fun r1 n1 => ?_⟩
    have s2 := s1.trans (same_upd (o := .tup (frV (g.1 + -f.1))) n1)
    have htop : Fr K (upd (upd H t (.tup [V.int (0 - f.1.num), V.int (f.1.den : Nat)])) r1 (.tup (frV (g.1 + -f.1)))) (.ref r1) (g.1 + -f.1) := Fr.new
    generalize upd (upd H t (.tup [V.int (0 - f.1.num), V.int (f.1.den : Nat)])) r1 (.tup (frV (g.1 + -f.1))) = H2 at s2 htop
    -- bottom
    refine ⟨_, rfl, _, _, _, _, rfl, rfl, s2.sqT hp, rfl, _, rfl, _, _, _, _, rfl, rfl, s2.sqT hq, rfl, _, _, _, _, rfl, rfl, s2.sqT hy2, rfl, _, _, rfl, rfl, _, rfl, _, _, _, _, rfl, rfl, s2.sqT hq, rfl, _, _, _, _, rfl, rfl, s2.sqT hy2, rfl, sz2, fun t3 n3 => ?_⟩
    have s3 := same_upd (o := .tup [V.int (0 - g.2.num), V.int (g.2.den : Nat)]) n3
    have hneg3 : Fr K (upd H2 t3 (.tup [V.int (0 - g.2.num), V.int (g.2.den : Nat)])) (.ref t3) (-g.2) := ⟨t3, rfl, by rw [fr_neg]; exact .inl (.inl upd_same)⟩
    refine ⟨_, _, _, _, rfl, (ha2.keep (.of s2)).keep (.of s3), hneg3, sf.2.mono (by decide), sg.2.neg.mono (by decide), fun r4 n4 => ?_⟩
    have s4 := s3.trans (same_upd (o := .tup (frV (f.2 + -g.2))) n4)
    have hbot : Fr K (upd (upd H2 t3 (.tup [V.int (0 - g.2.num), V.int (g.2.den : Nat)])) r4 (.tup (frV (f.2 + -g.2)))) (.ref r4) (f.2 + -g.2) := Fr.new
    have htop := htop.keep (.of s4)
    have s24 := s2.trans s4
    generalize upd (upd H2 t3 (.tup [V.int (0 - g.2.num), V.int (g.2.den : Nat)])) r4 (.tup (frV (f.2 + -g.2))) = H4 at s24 hbot htop
    have szt : KM.Sz 4000 (g.1 + -f.1) := (sg.1.add sf.1.neg).mono (by decide)
    have szb : KM.Sz 4000 (f.2 + -g.2) := (sf.2.add sg.2.neg).mono (by decide)
    have hz : f.2 + -g.2 ≠ 0 := by grind
    have er : KM.rootUp g f = (g.1 + -f.1) / (f.2 + -g.2) := by unfold KM.rootUp; grind
    rw [er] at k
    generalize (g.1 + -f.1) = x at *
    generalize (f.2 + -g.2) = y at *
    obtain ⟨xa, exa, hxa⟩ := htop
    obtain ⟨ya, eya, hya⟩ := hbot
    cases exa
    cases eya
    have hd : (0 : Int) < ((x.den : Nat) : Int) := Int.natCast_pos.mpr x.den_pos
    walk_at "rd"
    refine ite2 (fun hc => ?_) (fun hc => ?_)
    · have hn : y.num < 0 := of_decide_eq_true hc
      have hz : ((x.den : Nat) : Int) * y.num < 0 := Int.mul_neg_of_pos_of_neg hd hn
      have k1 := ov_key szt szb
      have k2 := ov_key2 szt szb
      walk_at "rd"
      refine ⟨_, _, rfl, (by show 0 < 0 - ((x.den : Nat) : Int) * y.num; omega), (by show (0 - x.num * ((y.den : Nat) : Int)).natAbs < _; rw [Int.zero_sub, Int.natAbs_neg]; exact k2), (by show (0 - ((x.den : Nat) : Int) * y.num).natAbs < _; rw [Int.zero_sub, Int.natAbs_neg]; exact k1), fun r hr => ?_⟩
      refine k _ _ (s24.trans (same_upd hr)) ⟨r, rfl, .inl (.inl ?_)⟩
      rw [KM.div_neg_def hn]
      exact upd_same
    · have hn0 : ¬ y.num < 0 := fun z => hc (decide_eq_true z)
      have hn : 0 < y.num := by
        have : y.num ≠ 0 := fun z => hz (KM.num_zero_iff.mp z)
        omega
      walk_at "rd"
      refine ⟨_, _, rfl, Int.mul_pos hd hn, ov_key2 szt szb, ov_key szt szb, fun r hr => ?_⟩
      refine k _ _ (s24.trans (same_upd hr)) ⟨r, rfl, .inl (.inl ?_)⟩
      rw [KM.div_pos_def hn]
      exact upd_same
/-- a new stretch in a new list -/
theorem st_new {H H1 : Hp} {Q : VK} {s : KM.Str4} (s1 : Same H H1) (k : QStr K H Q [s]) {p r : Addr} {a h : V} (np : H1 p = none) (nr : upd H1 p (.tup [a, .bl s.2.1, h, .bl s.2.2.2]) r = none) (ha : Fr K H1 a s.1) (hh : OptFr K H1 h s.2.2.1) :
    Q (.ref r) (upd (upd H1 p (.tup [a, .bl s.2.1, h, .bl s.2.2.2])) r (.lst [.ref p])) := by
  have s2 := same_upd (o := .tup [a, .bl s.2.1, h, .bl s.2.2.2]) np
  have s3 := same_upd (o := .lst [V.ref p]) nr
  exact k r _ _ (s1.trans (s2.trans s3)) ((s1.trans s2).free nr) upd_same (Paired.one ⟨p, a, h, rfl, s3.sqT (.inl (.inl upd_same)), ha.keep (.of (s2.trans s3)), hh.keep (.of (s2.trans s3))⟩)
def spLw (K : PySem.W.Frag) (g : Rat × Rat → Rat × Rat → List KM.Str4) : Sp := fun vs H Q _ => ∃ (a b : V) (f1 f2 : Rat × Rat), vs = [a, b] ∧ FmV K H a f1 ∧ FmV K H b f2 ∧ SzF 240 f1 ∧ SzF 240 f2 ∧ QStr K H Q (g f1 f2)
theorem new0 {H : Hp} {t : Addr} : Fr K (upd H t (.tup [V.int 0, V.int 1])) (.ref t) 0 := ⟨t, rfl, .inl (.inl upd_same)⟩
theorem ok_L_upto (T : Txt K mg) : FnOk P w K mg base CX0 4 T.L_upto.f T.L_upto.fd ["_law_one", "_law_other"] (spLw K KM.lUpto) := by
  refine T.L_upto.F.ok sc_L_upto (fun vs H Q E h => ?_) (fun cdv A outer s H vs Q E hr h => ?_)
  · obtain ⟨a, b, f, g, rfl, _⟩ := h
    rfl
  · obtain ⟨_, _, f, g, rfl, hf, hg, sf, sg, k⟩ := h
    refine ⟨_, (pss_cons (ps_if (pt_cmpR (op_eqD hr.units) (pe_ix ix_tup (pv 0) pe_int (fun _ _ => rfl)) (pe_ix ix_tup (pv 1) pe_int (fun _ _ => rfl)) (nomark _)) (pss_one (ps_ret (pe_ifExp (pt_val (pe_call (ok_L_less T) (hr.mono (by decide)) (by rfl) T.L_less.g T.L_less.F.kp T.L_less.b .nil pass0 (pa_cons (pe_ix ix_tup (pv 1) pe_int (fun _ _ => rfl)) (pa_cons (pe_ix ix_tup (pv 0) pe_int (fun _ _ => rfl)) pa_nil)))) (pe_lst pa_nil) (pe_lst (pa_cons (pe_tup (pa_cons (pe_tup (pa_cons pe_int (pa_cons pe_int pa_nil))) (pa_cons pe_bl (pa_cons pe_non (pa_cons pe_bl pa_nil))))) pa_nil))))) pss_nil)
      (pss_cons (ps_set (i := 2) sc_L_upto.nd rfl (Or.inl rfl) (pe_call (ok_L_root T) (hr.mono (by decide)) (by rfl) T.L_root.g T.L_root.F.kp T.L_root.b .nil pass0 (pa_cons (pv 0) (pa_cons (pv 1) pa_nil))))
      (pss_cons (ps_if (pt_val (pe_call (ok_L_less T) (hr.mono (by decide)) (by rfl) T.L_less.g T.L_less.F.kp T.L_less.b .nil pass0 (pa_cons (pe_ix ix_tup (pv 1) pe_int (fun _ _ => rfl)) (pa_cons (pe_ix ix_tup (pv 0) pe_int (fun _ _ => rfl)) pa_nil)))) (pss_one (ps_ret (pe_ifExp (pt_cmpR op_lt (pe_ix ix_tup (pv 2) pe_int (fun _ _ => rfl)) pe_int (nomark _)) (pe_lst pa_nil) (pe_lst (pa_cons (pe_tup (pa_cons (pe_tup (pa_cons pe_int (pa_cons pe_int pa_nil))) (pa_cons pe_bl (pa_cons (pv 2) (pa_cons pe_bl pa_nil))))) pa_nil))))) pss_nil)
      (pss_one (ps_ret (pe_lst (pa_cons (pe_tup (pa_cons (pe_ifExp (pt_cmpR op_gt (pe_ix ix_tup (pv 2) pe_int (fun _ _ => rfl)) pe_int (nomark _)) (pv 2) (pe_tup (pa_cons pe_int (pa_cons pe_int pa_nil)))) (pa_cons pe_bl (pa_cons pe_non (pa_cons pe_bl pa_nil))))) pa_nil))))))), ?_⟩
    obtain ⟨p, a1, a2, rfl, hp, ha1, ha2⟩ := id hf
    obtain ⟨q, b1, b2, rfl, hq, hb1, hb2⟩ := id hg
    refine ⟨_, rfl, _, _, _, _, rfl, rfl, hp, rfl, _, rfl, _, _, _, _, rfl, rfl, hq, rfl, _, _, fr_dp ha2, fr_dp hb2, fr_shaped _, fr_shaped _, _, rfl, ?_⟩
    rw [fr_eqv]
    refine ite2 (fun hc => ?_) (fun hc => ?_)
    · have h2 : f.2 = g.2 := of_decide_eq_true hc
      refine ⟨_, rfl, _, _, _, _, rfl, rfl, hq, rfl, _, rfl, _, _, _, _, rfl, rfl, hp, rfl, _, _, _, _, rfl, hb1, ha1, sg.1.mono (by decide), sf.1.mono (by decide), _, rfl, ?_⟩
      refine ite2 (fun hc => ?_) (fun hc => ?_)
      · have e : KM.lUpto f g = [] := by unfold KM.lUpto; rw [if_pos h2, if_pos (of_decide_eq_true hc)]
        rw [e] at k
        exact ⟨Nat.zero_le _, fun r nr => k r _ _ (same_upd nr) nr upd_same .nil⟩
      · have e : KM.lUpto f g = [KM.allW] := by unfold KM.lUpto; rw [if_pos h2, if_neg (fun z => hc (decide_eq_true z))]
        rw [e] at k
        refine ⟨sz2, fun t nt => ⟨sz4, fun p np => ⟨sz1L, fun r nr => st_new (same_upd nt) k np nr new0 rfl⟩⟩⟩
    · have h2 : ¬ f.2 = g.2 := fun z => hc (decide_eq_true z)
      refine ⟨_, rfl, _, rfl, _, _, _, _, rfl, hf, hg, sf, sg, h2, fun rv H1 s1 hroot => ?_⟩
      obtain ⟨ra, rfl, hra⟩ := id hroot
      refine ⟨_, rfl, _, _, _, _, rfl, rfl, s1.sqT hq, rfl, _, rfl, _, _, _, _, rfl, rfl, s1.sqT hp, rfl, _, _, _, _, rfl, hb2.keep (.of s1), ha2.keep (.of s1), sg.2.mono (by decide), sf.2.mono (by decide), _, rfl, ?_⟩
      refine ite2 (fun hc => ?_) (fun hc => ?_)
      · have h3 : g.2 < f.2 := of_decide_eq_true hc
        refine ⟨_, rfl, _, _, _, _, rfl, rfl, hra, rfl, _, _, rfl, rfl, _, rfl, ?_⟩
        show if decide ((KM.rootUp g f).num < 0) = true then _ else _
        rw [num_lt0]
        refine ite2 (fun hc => ?_) (fun hc => ?_)
        · have e : KM.lUpto f g = [] := by unfold KM.lUpto; rw [if_neg h2, if_pos h3, if_pos (of_decide_eq_true hc)]
          rw [e] at k
          exact ⟨Nat.zero_le _, fun r nr => k r _ _ (s1.trans (same_upd nr)) (s1.free nr) upd_same .nil⟩
        · have e : KM.lUpto f g = [(0, true, some (KM.rootUp g f), true)] := by unfold KM.lUpto; rw [if_neg h2, if_pos h3, if_neg (fun z => hc (decide_eq_true z))]
          rw [e] at k
          refine ⟨sz2, fun t nt => ⟨_, rfl, sz4, fun p np => ⟨sz1L, fun r nr => st_new (s1.trans (same_upd nt)) k np nr new0 (hroot.keep (tups_new nt))⟩⟩⟩
      · have h3 : ¬ g.2 < f.2 := fun z => hc (decide_eq_true z)
        refine ⟨_, rfl, _, _, _, _, rfl, rfl, hra, rfl, _, _, rfl, rfl, _, rfl, ?_⟩
        show if decide (0 < (KM.rootUp g f).num) = true then _ else _
        rw [num_gt0]
        refine ite2 (fun hc => ?_) (fun hc => ?_)
        · have e : KM.lUpto f g = [(KM.rootUp g f, true, none, false)] := by unfold KM.lUpto; rw [if_neg h2, if_neg h3, if_pos (of_decide_eq_true hc)]
          rw [e] at k
          exact ⟨_, rfl, sz4, fun p np => ⟨sz1L, fun r nr => st_new s1 k np nr hroot rfl⟩⟩
        · have e : KM.lUpto f g = [(0, true, none, false)] := by unfold KM.lUpto; rw [if_neg h2, if_neg h3, if_neg (fun z => hc (decide_eq_true z))]
          rw [e] at k
          exact ⟨sz2, fun t nt => ⟨sz4, fun p np => ⟨sz1L, fun r nr => st_new (s1.trans (same_upd nt)) k np nr new0 rfl⟩⟩⟩
theorem ok_L_below (T : Txt K mg) : FnOk P w K mg base CX0 4 T.L_below.f T.L_below.fd ["_law_one", "_law_other"] (spLw K KM.lBelow) := by
  refine T.L_below.F.ok sc_L_below (fun vs H Q E h => ?_) (fun cdv A outer s H vs Q E hr h => ?_)
  · obtain ⟨a, b, f, g, rfl, _⟩ := h
    rfl
  · obtain ⟨_, _, f, g, rfl, hf, hg, sf, sg, k⟩ := h
    refine ⟨_, (pss_cons (ps_if (pt_cmpR (op_eqD hr.units) (pe_ix ix_tup (pv 0) pe_int (fun _ _ => rfl)) (pe_ix ix_tup (pv 1) pe_int (fun _ _ => rfl)) (nomark _)) (pss_one (ps_ret (pe_ifExp (pt_val (pe_call (ok_L_less T) (hr.mono (by decide)) (by rfl) T.L_less.g T.L_less.F.kp T.L_less.b .nil pass0 (pa_cons (pe_ix ix_tup (pv 0) pe_int (fun _ _ => rfl)) (pa_cons (pe_ix ix_tup (pv 1) pe_int (fun _ _ => rfl)) pa_nil)))) (pe_lst (pa_cons (pe_tup (pa_cons (pe_tup (pa_cons pe_int (pa_cons pe_int pa_nil))) (pa_cons pe_bl (pa_cons pe_non (pa_cons pe_bl pa_nil))))) pa_nil)) (pe_lst pa_nil)))) pss_nil)
      (pss_cons (ps_set (i := 2) sc_L_below.nd rfl (Or.inl rfl) (pe_call (ok_L_root T) (hr.mono (by decide)) (by rfl) T.L_root.g T.L_root.F.kp T.L_root.b .nil pass0 (pa_cons (pv 0) (pa_cons (pv 1) pa_nil))))
      (pss_cons (ps_if (pt_val (pe_call (ok_L_less T) (hr.mono (by decide)) (by rfl) T.L_less.g T.L_less.F.kp T.L_less.b .nil pass0 (pa_cons (pe_ix ix_tup (pv 1) pe_int (fun _ _ => rfl)) (pa_cons (pe_ix ix_tup (pv 0) pe_int (fun _ _ => rfl)) pa_nil)))) (pss_one (ps_ret (pe_ifExp (pt_cmpR op_gt (pe_ix ix_tup (pv 2) pe_int (fun _ _ => rfl)) pe_int (nomark _)) (pe_lst (pa_cons (pe_tup (pa_cons (pe_tup (pa_cons pe_int (pa_cons pe_int pa_nil))) (pa_cons pe_bl (pa_cons (pv 2) (pa_cons pe_bl pa_nil))))) pa_nil)) (pe_lst pa_nil)))) pss_nil)
      (pss_one (ps_ret (pe_ifExp (pt_cmpR op_lt (pe_ix ix_tup (pv 2) pe_int (fun _ _ => rfl)) pe_int (nomark _)) (pe_lst (pa_cons (pe_tup (pa_cons (pe_tup (pa_cons pe_int (pa_cons pe_int pa_nil))) (pa_cons pe_bl (pa_cons pe_non (pa_cons pe_bl pa_nil))))) pa_nil)) (pe_lst (pa_cons (pe_tup (pa_cons (pv 2) (pa_cons pe_bl (pa_cons pe_non (pa_cons pe_bl pa_nil))))) pa_nil)))))))), ?_⟩
    obtain ⟨p, a1, a2, rfl, hp, ha1, ha2⟩ := id hf
    obtain ⟨q, b1, b2, rfl, hq, hb1, hb2⟩ := id hg
    refine ⟨_, rfl, _, _, _, _, rfl, rfl, hp, rfl, _, rfl, _, _, _, _, rfl, rfl, hq, rfl, _, _, fr_dp ha2, fr_dp hb2, fr_shaped _, fr_shaped _, _, rfl, ?_⟩
    rw [fr_eqv]
    refine ite2 (fun hc => ?_) (fun hc => ?_)
    · have h2 : f.2 = g.2 := of_decide_eq_true hc
      refine ⟨_, rfl, _, _, _, _, rfl, rfl, hp, rfl, _, rfl, _, _, _, _, rfl, rfl, hq, rfl, _, _, _, _, rfl, ha1, hb1, sf.1.mono (by decide), sg.1.mono (by decide), _, rfl, ?_⟩
      refine ite2 (fun hc => ?_) (fun hc => ?_)
      · have e : KM.lBelow f g = [KM.allW] := by unfold KM.lBelow; rw [if_pos h2, if_pos (of_decide_eq_true hc)]
        rw [e] at k
        refine ⟨sz2, fun t nt => ⟨sz4, fun p np => ⟨sz1L, fun r nr => st_new (same_upd nt) k np nr new0 rfl⟩⟩⟩
      · have e : KM.lBelow f g = [] := by unfold KM.lBelow; rw [if_pos h2, if_neg (fun z => hc (decide_eq_true z))]
        rw [e] at k
        exact ⟨Nat.zero_le _, fun r nr => k r _ _ (same_upd nr) nr upd_same .nil⟩
    · have h2 : ¬ f.2 = g.2 := fun z => hc (decide_eq_true z)
      refine ⟨_, rfl, _, rfl, _, _, _, _, rfl, hf, hg, sf, sg, h2, fun rv H1 s1 hroot => ?_⟩
      obtain ⟨ra, rfl, hra⟩ := id hroot
      refine ⟨_, rfl, _, _, _, _, rfl, rfl, s1.sqT hq, rfl, _, rfl, _, _, _, _, rfl, rfl, s1.sqT hp, rfl, _, _, _, _, rfl, hb2.keep (.of s1), ha2.keep (.of s1), sg.2.mono (by decide), sf.2.mono (by decide), _, rfl, ?_⟩
      refine ite2 (fun hc => ?_) (fun hc => ?_)
      · have h3 : g.2 < f.2 := of_decide_eq_true hc
        refine ⟨_, rfl, _, _, _, _, rfl, rfl, hra, rfl, _, _, rfl, rfl, _, rfl, ?_⟩
        show if decide (0 < (KM.rootUp g f).num) = true then _ else _
        rw [num_gt0]
        refine ite2 (fun hc => ?_) (fun hc => ?_)
        · have e : KM.lBelow f g = [(0, true, some (KM.rootUp g f), false)] := by unfold KM.lBelow; rw [if_neg h2, if_pos h3, if_pos (of_decide_eq_true hc)]
          rw [e] at k
          refine ⟨sz2, fun t nt => ⟨_, rfl, sz4, fun p np => ⟨sz1L, fun r nr => st_new (s1.trans (same_upd nt)) k np nr new0 (hroot.keep (tups_new nt))⟩⟩⟩
        · have e : KM.lBelow f g = [] := by unfold KM.lBelow; rw [if_neg h2, if_pos h3, if_neg (fun z => hc (decide_eq_true z))]
          rw [e] at k
          exact ⟨Nat.zero_le _, fun r nr => k r _ _ (s1.trans (same_upd nr)) (s1.free nr) upd_same .nil⟩
      · have h3 : ¬ g.2 < f.2 := fun z => hc (decide_eq_true z)
        refine ⟨_, rfl, _, _, _, _, rfl, rfl, hra, rfl, _, _, rfl, rfl, _, rfl, ?_⟩
        show if decide ((KM.rootUp g f).num < 0) = true then _ else _
        rw [num_lt0]
        refine ite2 (fun hc => ?_) (fun hc => ?_)
        · have e : KM.lBelow f g = [KM.allW] := by unfold KM.lBelow; rw [if_neg h2, if_neg h3, if_pos (of_decide_eq_true hc)]
          rw [e] at k
          exact ⟨sz2, fun t nt => ⟨sz4, fun p np => ⟨sz1L, fun r nr => st_new (s1.trans (same_upd nt)) k np nr new0 rfl⟩⟩⟩
        · have e : KM.lBelow f g = [(KM.rootUp g f, false, none, false)] := by unfold KM.lBelow; rw [if_neg h2, if_neg h3, if_neg (fun z => hc (decide_eq_true z))]
          rw [e] at k
          exact ⟨_, rfl, sz4, fun p np => ⟨sz1L, fun r nr => st_new s1 k np nr hroot rfl⟩⟩
def spTurn (K : PySem.W.Frag) : Sp := fun vs H Q _ => ∃ (a : V) (f : Rat × Rat), vs = [a] ∧ FmV K H a f ∧ ∀ v H', Same H H' → FmV K H' v (negF f) → Q v H'
theorem ok_L_turned (T : Txt K mg) : FnOk P w K mg base CX0 1 T.L_turned.f T.L_turned.fd ["_law_form"] (spTurn K) := by
  refine T.L_turned.F.ok sc_L_turned (fun vs H Q E h => ?_) (fun cdv A outer s H vs Q E hr h => ?_)
  · obtain ⟨a, f, rfl, _⟩ := h
    rfl
  · obtain ⟨_, f, rfl, ⟨p, _, _, rfl, hp, ⟨a1, rfl, ha1⟩, ⟨a2, rfl, ha2⟩⟩, k⟩ := h
    refine ⟨_, (pss_one (ps_ret (pe_tup (pa_cons (pe_tup (pa_cons (pe_op op_sub pe_int (pe_ix ix_tup (pe_ix ix_tup (pv 0) pe_int (fun _ _ => rfl)) pe_int (fun _ _ => rfl))) (pa_cons (pe_ix ix_tup (pe_ix ix_tup (pv 0) pe_int (fun _ _ => rfl)) pe_int (fun _ _ => rfl)) pa_nil))) (pa_cons (pe_tup (pa_cons (pe_op op_sub pe_int (pe_ix ix_tup (pe_ix ix_tup (pv 0) pe_int (fun _ _ => rfl)) pe_int (fun _ _ => rfl))) (pa_cons (pe_ix ix_tup (pe_ix ix_tup (pv 0) pe_int (fun _ _ => rfl)) pe_int (fun _ _ => rfl)) pa_nil))) pa_nil))))), ?_⟩
    walk_at "rd"
    refine ⟨sz2, fun t nt => ?_⟩
    have s1 := same_upd (o := .tup [V.int (0 - f.1.num), V.int (f.1.den : Nat)]) nt
    have hp := s1.sqT hp
    have ha2 := s1.sqT ha2
    walk_at "rd"
    refine ⟨sz2, fun t2 nt2 => ⟨sz2, fun t3 nt3 => ?_⟩⟩
    have s2 := same_upd (o := .tup [V.int (0 - f.2.num), V.int (f.2.den : Nat)]) nt2
    have s3 := same_upd (o := .tup [V.ref t, V.ref t2]) nt3
    refine k _ _ (s1.trans (s2.trans s3)) ⟨t3, _, _, rfl, .inl (.inl upd_same), ⟨t, rfl, ?_⟩, ⟨t2, rfl, ?_⟩⟩
    · show SqT K _ t (frV (-f.1))
      rw [fr_neg]
      exact (s2.trans s3).sqT (.inl (.inl upd_same))
    · show SqT K _ t2 (frV (-f.2))
      rw [fr_neg]
      exact s3.sqT (.inl (.inl upd_same))
end
end KX
set_option Elab.async false
set_option linter.all false
set_option maxRecDepth 100000
set_option maxHeartbeats 4000000
set_option exponentiation.threshold 20000
namespace KX
open PySem PySem.Spec PyProof.Rows L2
/-! ### sizes -/
def SzO (h : Option Rat) : Prop := ∀ x, h = some x → KM.Sz 1000 x
theorem upto_sz {o f : Rat × Rat} (so : SzF 240 o) (sf : SzF 240 f) : KM.lUpto o f = [] ∨ ∃ p, KM.lUpto o f = [p] ∧ KM.Sz 1000 p.1 ∧ SzO p.2.2.1 := by
  unfold KM.lUpto
  have z : KM.Sz 1000 0 := KM.Sz.zero (by decide)
  by_cases h1 : o.2 = f.2
  · rw [if_pos h1]
    by_cases h2 : f.1 < o.1
    · rw [if_pos h2]; exact .inl rfl
    · rw [if_neg h2]; exact .inr ⟨_, rfl, z, fun x e => by cases e⟩
  · rw [if_neg h1]
    have hr : KM.Sz 1000 (KM.rootUp f o) := root_sz sf so (Ne.symm h1)
    by_cases h2 : f.2 < o.2
    · rw [if_pos h2]
      by_cases h3 : KM.rootUp f o < 0
      · rw [if_pos h3]; exact .inl rfl
      · rw [if_neg h3]; exact .inr ⟨_, rfl, z, fun x e => by cases e; exact hr⟩
    · rw [if_neg h2]
      refine .inr ⟨_, rfl, ?_, fun x e => by cases e⟩
      show KM.Sz 1000 (if 0 < KM.rootUp f o then KM.rootUp f o else 0)
      split
      · exact hr
      · exact z
theorem sz_one : KM.Sz 1000 1 := by
  refine ⟨?_, ?_⟩
  · show (1 : Int).natAbs < _
    exact Nat.one_lt_two_pow (by decide)
  · show 1 < _
    exact Nat.one_lt_two_pow (by decide)
theorem part_of {o f : Rat × Rat} (so : SzF 240 o) (sf : SzF 240 f) : ∃ p, ((KM.lUpto o f = [] ∧ p = ((1 : Rat), true, some (0 : Rat), true)) ∨ KM.lUpto o f = [p]) ∧ KM.partOf o f = (p.1, p.2.2.1) ∧ KM.Sz 1000 p.1 ∧ SzO p.2.2.1 := by
  rcases upto_sz so sf with e | ⟨p, e, h1, h2⟩
  · refine ⟨((1 : Rat), true, some (0 : Rat), true), .inl ⟨e, rfl⟩, ?_, sz_one, fun x e => ?_⟩
    · unfold KM.partOf; rw [e]
    · cases e; exact KM.Sz.zero (by decide)
  · refine ⟨p, .inr e, ?_, h1, h2⟩
    unfold KM.partOf; rw [e]
theorem low_sz {a b : Rat} (ha : KM.Sz 1000 a) (hb : KM.Sz 1000 b) : KM.Sz 1000 (KM.lowStep a b) := by
  unfold KM.lowStep
  split
  · exact hb
  · exact ha
theorem high_sz {a b : Option Rat} (ha : SzO a) (hb : SzO b) : SzO (KM.highStep a b) := by
  cases a with
  | none => exact hb
  | some x =>
    cases b with
    | none => exact ha
    | some y =>
      show SzO (if y < x then some y else some x)
      split
      · exact hb
      · exact ha
/-- the answer of _law_top_stretch -/
def TopV (K : PySem.W.Frag) (H : Hp) (v : V) : Option (Rat × Option Rat) → Prop
  | none => v = .non
  | some (lo, hi) => ∃ p a h, v = .ref p ∧ SqT K H p [a, h] ∧ Fr K H a lo ∧ OptFr K H h hi ∧ KM.Sz 1000 lo ∧ SzO hi
theorem OptFr.isN {K : PySem.W.Frag} {H : Hp} {v : V} {o : Option Rat} (h : OptFr K H v o) : decide (v = V.non) = !o.isSome := by
  have := h.isn
  cases o <;> simpa using this
section
variable {P : Program} {w : World} {K : PySem.W.Frag} {mg : Str → Option Value} {base : Heap}
def spTopS (K : PySem.W.Frag) : Sp := fun vs H Q _ => ∃ (l : Addr) (b : V) (xs : List V) (fs : List (Rat × Rat)) (f : Rat × Rat), vs = [.ref l, b] ∧ SqL K H l xs ∧ Paired (FmV K H) xs fs ∧ FmV K H b f ∧ (∀ g ∈ fs, SzF 240 g) ∧ SzF 240 f ∧
  ∀ v H', Same H H' → TopV K H' v (KM.topS fs f) → Q v H'
theorem tIf_val {k : Bool} {ta tb : TE} {σ : L2.St} {H : Hp} {Q : VK} (G : V → Prop) (h1 : k = true → ∀ Q' : VK, (∀ v, G v → Q' v H) → ta σ H Q') (h2 : k = false → ∀ Q' : VK, (∀ v, G v → Q' v H) → tb σ H Q') (fin : ∀ v, G v → Q v H) :
    if k = true then ta σ H Q else tb σ H Q := by
  cases k with
  | true => exact iteT (h1 rfl _ fin)
  | false => exact iteF (h2 rfl _ fin)
theorem or_part {Q' : VK} {k : Bool} {r : Addr} {σ : L2.St} {H2 : Hp} {tb : TE} (G : Addr → Hp → Prop) (h1 : k = true → G r H2) (h2 : k = false → ∀ Q'' : VK, (∀ r' H3, G r' H3 → Q'' (.ref r') H3) → tb σ H2 Q'') (fin : ∀ r' H3, G r' H3 → Q' (.ref r') H3) :
    if k = true then Q' (.ref r) H2 else tb σ H2 Q' := by
  cases k with
  | true => exact iteT (fin _ _ (h1 rfl))
  | false => exact iteF (h2 rfl _ fin)
theorem ok_L_top_stretch (T : Txt K mg) : FnOk P w K mg base CX0 5 T.L_top_stretch.f T.L_top_stretch.fd ["_law_forms", "_law_form"] (spTopS K) := by
  refine T.L_top_stretch.F.ok sc_L_top_stretch (fun vs H Q E h => ?_) (fun cdv A outer s H vs Q E hr h => ?_)
  · obtain ⟨l, b, xs, fs, f, rfl, _⟩ := h
    rfl
  · obtain ⟨l, b, xs, fs, f, rfl, hl, hp, hb, hz, sf, k⟩ := h
    refine ⟨_, (pss_cons (ps_asg (pe_tup (pa_cons (pe_tup (pa_cons pe_int (pa_cons pe_int pa_nil))) (pa_cons pe_non pa_nil))) (pg_tup rfl (pgs_cons (pg_name (i := 2) sc_L_top_stretch.nd rfl (Or.inl rfl)) (pgs_cons (pg_name (i := 3) sc_L_top_stretch.nd rfl (Or.inl rfl)) pgs_nil))))
      (pss_cons (ps_for PassesOwn.never rfl (pi_list (pv 0)) (pg_name (i := 4) sc_L_top_stretch.nd rfl (Or.inl rfl)) (pss_one (ps_for PassesOwn.never rfl (pi_list (pe_orT (pe_call (ok_L_upto T) (hr.mono (by decide)) (by rfl) T.L_upto.g T.L_upto.F.kp T.L_upto.b .nil pass0 (pa_cons (pv 4) (pa_cons (pv 1) pa_nil))) (pe_one (pe_lst (pa_cons (pe_tup (pa_cons (pe_tup (pa_cons pe_int (pa_cons pe_int pa_nil))) (pa_cons pe_bl (pa_cons (pe_tup (pa_cons pe_int (pa_cons pe_int pa_nil))) (pa_cons pe_bl pa_nil))))) pa_nil))))) (pg_name (i := 5) sc_L_top_stretch.nd rfl (Or.inl rfl)) (pss_cons (ps_set (i := 2) sc_L_top_stretch.nd rfl (Or.inl rfl) (pe_ifExp (pt_val (pe_call (ok_L_less T) (hr.mono (by decide)) (by rfl) T.L_less.g T.L_less.F.kp T.L_less.b .nil pass0 (pa_cons (pv 2) (pa_cons (pe_ix ix_tup (pv 5) pe_int (fun _ _ => rfl)) pa_nil)))) (pe_ix ix_tup (pv 5) pe_int (fun _ _ => rfl)) (pv 2)))
      (pss_one (ps_set (i := 3) sc_L_top_stretch.nd rfl (Or.inl rfl) (pe_ifExp (PW.pt (pw_or (pt_cmpR op_isN (pv 3) pe_non (nomark _)) (pw_or1 (PW.pt (pw_and (pt_cmpR op_notN (pe_ix ix_tup (pv 5) pe_int (fun _ _ => rfl)) pe_non (nomark _)) (pw_and1 (pt_val (pe_call (ok_L_less T) (hr.mono (by decide)) (by rfl) T.L_less.g T.L_less.F.kp T.L_less.b .nil pass0 (pa_cons (pe_ix ix_tup (pv 5) pe_int (fun _ _ => rfl)) (pa_cons (pv 3) pa_nil)))))))))) (pe_ix ix_tup (pv 5) pe_int (fun _ _ => rfl)) (pv 3))))))))
      (pss_one (ps_ret (pe_ifExp (PW.pt (pw_and (pt_cmpR op_notN (pv 3) pe_non (nomark _)) (pw_and1 (pt_val (pe_call (ok_L_less T) (hr.mono (by decide)) (by rfl) T.L_less.g T.L_less.F.kp T.L_less.b .nil pass0 (pa_cons (pv 3) (pa_cons (pv 2) pa_nil))))))) pe_non (pe_tup (pa_cons (pv 2) (pa_cons (pv 3) pa_nil)))))))), ?_⟩
    have el : xs.length = fs.length := Paired.length hp
    refine ⟨sz2, fun t nt => ⟨sz2, fun t2 nt2 => ⟨t2, _, rfl, .inl (.inl upd_same), rfl, _, _, rfl, _, _, rfl, rfl, ?_⟩⟩⟩
    have s0 := (same_upd (o := .tup [V.int 0, V.int 1]) nt).trans (same_upd (o := .tup [V.ref t, V.non]) nt2)
    refine ⟨_, rfl, l, rfl, ⟨_, s0.seq hl⟩, for_list (K := K) (a := l) (xs := xs) (fun i σ H' => Same H H' ∧ ∃ lov hiv y4 y5, σ = [some (.ref l), some b, some lov, some hiv, y4, y5] ∧ Fr K H' lov ((fs.take i).foldl (KM.topStep f) (0, none)).1 ∧ OptFr K H' hiv ((fs.take i).foldl (KM.topStep f) (0, none)).2 ∧
        KM.Sz 1000 ((fs.take i).foldl (KM.topStep f) (0, none)).1 ∧ SzO ((fs.take i).foldl (KM.topStep f) (0, none)).2)
      ⟨s0, .ref t, .non, none, none, rfl, new0.keep (tups_new nt2), rfl, KM.Sz.zero (by decide), fun x e => by cases e⟩ (fun i σ H' _ ⟨e, _⟩ => e.seq hl) ?_ ?_⟩
    · rintro i x σ H1 hi ⟨s1, lov, hiv, y4, y5, rfl, hlo, hhi, szl, szh⟩
      obtain ⟨g, hg, gx⟩ := Paired.get hp hi
      have sg := hz _ (List.mem_of_getElem? hg)
      rw [take_more hg, List.foldl_append]
      generalize List.foldl (KM.topStep f) (0, none) (fs.take i) = st at *
      obtain ⟨lo, hi'⟩ := st
      have hlo : Fr K H1 lov lo := hlo
      have hhi : OptFr K H1 hiv hi' := hhi
      have szl : KM.Sz 1000 lo := szl
      have szh : SzO hi' := szh
      obtain ⟨pp, epl, epo, szp1, szp2⟩ := part_of sg sf
      have est : List.foldl (KM.topStep f) (lo, hi') [g] = (KM.lowStep lo pp.1, KM.highStep hi' pp.2.2.1) := by
        show KM.topStep f (lo, hi') g = _
        unfold KM.topStep
        rw [epo]
      rw [est]
      refine ⟨_, rfl, _, rfl, _, _, _, _, rfl, gx.keep (.of s1), hb.keep (.of s1), sg, sf, fun r H2 ys s2 nr hr2 hys => ?_⟩
      refine ⟨!ys.isEmpty, .inl ⟨ys, SqL.of hr2, rfl⟩, ?_⟩
      refine or_part (fun r' H3 => Same H1 H3 ∧ ∃ q, H3 r' = some (.lst [q]) ∧ StV K H3 q pp) (fun hk => ?_) (fun hk Q'' hQ => ?_) ?_
      · rcases epl with ⟨e, _⟩ | e
        · rw [e] at hys
          cases hys
          cases hk
        · rw [e] at hys
          cases hys with
          | cons hq t =>
            cases t
            exact ⟨s2, _, hr2, hq⟩
      · rcases epl with ⟨e, rfl⟩ | e
        · refine ⟨sz2, fun t1 n1 => ⟨sz2, fun t2 n2 => ⟨sz4, fun t3 n3 => ⟨sz1L, fun t4 n4 => hQ t4 _ ⟨?_, V.ref t3, upd_same, ?_⟩⟩⟩⟩⟩
          · exact s2.trans ((same_upd n1).trans ((same_upd n2).trans ((same_upd n3).trans (same_upd n4))))
          · have u2 := same_upd (o := .tup [V.int 0, V.int 1]) n2
            have u3 := same_upd (o := .tup [V.ref t1, V.bl true, V.ref t2, V.bl true]) n3
            have u4 := same_upd (o := .lst [V.ref t3]) n4
            refine ⟨t3, _, _, rfl, u4.sqT (.inl (.inl upd_same)), ?_, ?_⟩
            · exact Fr.keep (.of (u2.trans (u3.trans u4))) ⟨t1, rfl, .inl (.inl upd_same)⟩
            · exact Fr.keep (.of (u3.trans u4)) new0
        · rw [e] at hys
          cases hys with
          | cons hq t => cases hk
      · rintro r' H3 ⟨s3, q, hr3, hq⟩
        have s13 := s1.trans s3
        obtain ⟨qa, a, h, rfl, hqa, ha, hh⟩ := id hq
        refine ⟨r', rfl, ⟨_, SqL.of hr3⟩, for_list (K := K) (a := r') (xs := [V.ref qa]) (fun j σ H' => H' = H3 ∧ ∃ lov' hiv' y5', σ = [some (.ref l), some b, some lov', some hiv', some x, y5'] ∧
            (j = 0 → lov' = lov ∧ hiv' = hiv) ∧ (j = 1 → Fr K H3 lov' (KM.lowStep lo pp.1) ∧ OptFr K H3 hiv' (KM.highStep hi' pp.2.2.1)))
          ⟨rfl, lov, hiv, y5, rfl, fun _ => ⟨rfl, rfl⟩, fun z => by cases z⟩ (fun j σ H' _ ⟨e, _⟩ => by rw [e]; exact SqL.of hr3) ?_ ?_⟩
        · rintro j z σ H' hj ⟨rfl, lov', hiv', y5', rfl, h0, h1⟩
          obtain rfl : j = 0 := by
            have := (List.getElem?_eq_some_iff.mp hj).1
            simpa using this
          obtain ⟨rfl, rfl⟩ := h0 rfl
          obtain rfl : V.ref qa = z := by simpa using hj
          have hlo3 := hlo.keep (.of s3)
          have hhi3 := hhi.keep (.of s3)
          have szlo4 : KM.Sz 4000 lo := szl.mono (by decide)
          -- low
          refine ⟨_, rfl, _, rfl, _, _, _, _, rfl, rfl, hqa, rfl, _, _, _, _, rfl, hlo3, ha, szlo4, szp1.mono (by decide), _, rfl, ?_⟩
          refine tIf_val (fun v => Fr K H' v (KM.lowStep lo pp.1)) (fun hk Q' hQ' => ?_) (fun hk Q' hQ' => ?_) (fun lov2 hl2 => ?_)
          · have e : KM.lowStep lo pp.1 = pp.1 := if_pos (of_decide_eq_true hk)
            exact ⟨_, rfl, _, _, _, _, rfl, rfl, hqa, rfl, hQ' _ (by rw [e]; exact ha)⟩
          · have e : KM.lowStep lo pp.1 = lo := if_neg (of_decide_eq_false hk)
            exact ⟨_, rfl, hQ' _ (by rw [e]; exact hlo3)⟩
          · -- high
            have fin : ∀ hv2, OptFr K H' hv2 (KM.highStep hi' pp.2.2.1) → ∀ {R : L2.St → Hp → Prop}, (∀ σ2, (∃ lov'' hiv'' y5'', σ2 = [some (.ref l), some b, some lov'', some hiv'', some x, y5''] ∧ Fr K H' lov'' (KM.lowStep lo pp.1) ∧ OptFr K H' hiv'' (KM.highStep hi' pp.2.2.1)) → R σ2 H') →
                R [some (.ref l), some b, some lov2, some hv2, some x, some (V.ref qa)] H' := fun hv2 hh2 R hR => hR _ ⟨_, _, _, rfl, hl2, hh2⟩
            refine ⟨_, rfl, rfl, _, rfl, ?_⟩
            have eN := hhi3.isN
            cases hi' with
            | none =>
              obtain rfl : hiv' = .non := hhi3
              refine iteT (iteT ?_)
              refine ⟨_, rfl, _, _, _, _, rfl, rfl, hqa, rfl, rfl, _, _, _, rfl, fun z => absurd z (by decide), fun _ => ⟨hl2, hh⟩⟩
            | some x1 =>
              rw [eN]
              refine iteF ?_
              refine ⟨_, rfl, _, _, _, _, rfl, rfl, hqa, rfl, rfl, _, rfl, ?_⟩
              rw [hh.isn]
              cases ep : pp.2.2.1 with
              | none =>
                rw [ep] at hh
                refine iteF (iteF ?_)
                exact ⟨_, rfl, rfl, _, _, _, rfl, fun z => absurd z (by decide), fun _ => ⟨hl2, hhi3⟩⟩
              | some y1 =>
                rw [ep] at hh
                refine iteT ?_
                refine ⟨_, rfl, _, _, _, _, rfl, rfl, hqa, rfl, _, rfl, _, _, _, _, rfl, hh, hhi3, (szp2 y1 ep).mono (by decide), (szh x1 rfl).mono (by decide), _, rfl, ?_⟩
                refine tIf_val (fun v => OptFr K H' v (KM.highStep (some x1) (some y1))) (fun hk Q' hQ' => ?_) (fun hk Q' hQ' => ?_) (fun hv2 hh2 => ?_)
                · have e : KM.highStep (some x1) (some y1) = some y1 := if_pos (of_decide_eq_true hk)
                  exact ⟨_, rfl, _, _, _, _, rfl, rfl, hqa, rfl, hQ' _ (by rw [e]; exact hh)⟩
                · have e : KM.highStep (some x1) (some y1) = some x1 := if_neg (of_decide_eq_false hk)
                  exact ⟨_, rfl, hQ' _ (by rw [e]; exact hhi3)⟩
                · exact ⟨rfl, _, _, _, rfl, fun z => absurd z (by decide), fun _ => ⟨hl2, hh2⟩⟩
        · rintro σ H' ⟨rfl, lov', hiv', y5', rfl, h0, h1⟩
          obtain ⟨f1, f2⟩ := h1 rfl
          exact ⟨s13, lov', hiv', _, _, rfl, f1, f2, low_sz szl szp1, high_sz szh szp2⟩
    · rintro σ H1 ⟨s1, lov, hiv, y4, y5, rfl, hlo, hhi, szl, szh⟩
      rw [el, List.take_length] at hlo hhi szl szh
      have eT : KM.topFold fs f = fs.foldl (KM.topStep f) (0, none) := rfl
      have k1 := k
      unfold KM.topS at k1
      rw [eT] at k1
      generalize fs.foldl (KM.topStep f) (0, none) = st at *
      obtain ⟨lo, hi'⟩ := st
      have hlo : Fr K H1 lov lo := hlo
      have hhi : OptFr K H1 hiv hi' := hhi
      have szl : KM.Sz 1000 lo := szl
      have szh : SzO hi' := szh
      have pair : (∀ v H', Same H H' → TopV K H' v (some (lo, hi')) → Q v H') → ∀ t, H1 t = none → Q (.ref t) (upd H1 t (.tup [lov, hiv])) := fun kk t nt =>
        kk _ _ (s1.trans (same_upd nt)) ⟨t, _, _, rfl, .inl (.inl upd_same), hlo.keep (tups_new nt), hhi.keep (tups_new nt), szl, szh⟩
      refine ⟨_, rfl, rfl, _, rfl, ?_⟩
      rw [hhi.isn]
      cases hi' with
      | none =>
        have k1 : ∀ v H', Same H H' → TopV K H' v (some (lo, none)) → Q v H' := k1
        refine iteF (iteF ?_)
        exact ⟨_, rfl, _, rfl, sz2, pair k1⟩
      | some x1 =>
        have k1 : ∀ v H', Same H H' → TopV K H' v (if x1 < lo then none else some (lo, some x1)) → Q v H' := k1
        refine iteT ?_
        refine ⟨_, rfl, _, rfl, _, _, _, _, rfl, hhi, hlo, (szh x1 rfl).mono (by decide), szl.mono (by decide), _, rfl, ?_⟩
        refine ite2 (fun hc => ?_) (fun hc => ?_)
        · rw [if_pos (of_decide_eq_true hc)] at k1
          exact k1 _ _ s1 rfl
        · rw [if_neg (fun z => hc (decide_eq_true z))] at k1
          exact ⟨_, rfl, _, rfl, sz2, pair k1⟩
end
end KX
set_option Elab.async false
set_option linter.all false
set_option maxRecDepth 100000
set_option maxHeartbeats 4000000
set_option exponentiation.threshold 20000
namespace KX
open PySem PySem.Spec PyProof.Rows L2
theorem itF_of {c : Bool} {A B : Prop} (hc : c = false) (h : B) : if c = true then A else B := by
  subst hc
  exact iteF h
theorem itT_of {c : Bool} {A B : Prop} (hc : c = true) (h : A) : if c = true then A else B := by
  subst hc
  exact iteT h
def nextBest (best : Option ((Rat × Rat) × Option Rat)) (f : Rat × Rat) (hi : Option Rat) : Option ((Rat × Rat) × Option Rat) := match best with
  | none => some (f, hi)
  | some (_, bh) => if KM.hiLt bh hi then some (f, hi) else best
theorem nb_none {f : Rat × Rat} {hi : Option Rat} : nextBest none f hi = some (f, hi) := rfl
theorem nb_yes {b f : Rat × Rat} {bh hi : Option Rat} (h : KM.hiLt bh hi = true) : nextBest (some (b, bh)) f hi = some (f, hi) := if_pos h
theorem nb_no {b f : Rat × Rat} {bh hi : Option Rat} (h : ¬ KM.hiLt bh hi = true) : nextBest (some (b, bh)) f hi = some (b, bh) := if_neg h
/-- the best one so far -/
def BestV (K : PySem.W.Frag) (H : Hp) (v : V) : Option ((Rat × Rat) × Option Rat) → Prop
  | none => v = .non
  | some (f, h) => ∃ p a hv, v = .ref p ∧ SqT K H p [a, hv] ∧ FmV K H a f ∧ OptFr K H hv h ∧ SzF 240 f ∧ SzO h
theorem BestV.keep {K : PySem.W.Frag} {H H' : Hp} {v : V} {o : Option ((Rat × Rat) × Option Rat)} (e : Tups H H') (h : BestV K H v o) : BestV K H' v o := by
  cases o with
  | none => exact h
  | some q =>
    obtain ⟨p, a, hv, rfl, h1, h2, h3, h4, h5⟩ := h
    exact ⟨p, a, hv, rfl, e.sqT h1, h2.keep e, h3.keep e, h4, h5⟩
theorem BestV.isN {K : PySem.W.Frag} {H : Hp} {v : V} {o : Option ((Rat × Rat) × Option Rat)} (h : BestV K H v o) : decide (v = V.non) = !o.isSome := by
  cases o with
  | none => rw [show v = V.non from h]; rfl
  | some q =>
    obtain ⟨p, _, _, rfl, _⟩ := h
    rfl
theorem TopV.isn {K : PySem.W.Frag} {H : Hp} {v : V} {o : Option (Rat × Option Rat)} (h : TopV K H v o) : (!decide (v = V.non)) = o.isSome := by
  cases o with
  | none => rw [show v = V.non from h]; rfl
  | some q =>
    obtain ⟨p, _, _, rfl, _⟩ := h
    rfl
/-- what holds at the head of the loop -/
def InvEnv (K : PySem.W.Frag) (H : Hp) (l r : Addr) (fs : List (Rat × Rat)) (m : Nat) (σ : L2.St) (H' : Hp) : Prop :=
  Same H H' ∧ ∃ (vs : List V) (sv : V) (y3 y4 y5 : Option V) (dn : List KM.Piece), σ = [some (.ref l), some (.ref r), some sv, y3, y4, y5] ∧ H' r = some (.lst vs) ∧ Paired (PcV K H') vs dn ∧ dn.length ≤ fs.length + 1 ∧
    ((sv = .non ∧ dn = outlAll fs) ∨
      ∃ (p : Addr) (a : V) (low : Rat) (c : Bool), sv = .ref p ∧ SqT K H' p [a, .bl c] ∧ Fr K H' a low ∧ 0 ≤ low ∧ KM.Sz 1000 low ∧ dn ++ KM.outl fs m low c = outlAll fs ∧ KM.cnt fs (KM.bestOf fs low) < m ∧ m + dn.length = fs.length + 1)
section
variable {P : Program} {w : World} {K : PySem.W.Frag} {mg : Str → Option Value} {base : Heap}
def spEnv (K : PySem.W.Frag) : Sp := fun vs H Q _ => ∃ (l : Addr) (xs : List V) (fs : List (Rat × Rat)), vs = [.ref l] ∧ SqL K H l xs ∧ Paired (FmV K H) xs fs ∧ fs ≠ [] ∧ (∀ f ∈ fs, SzF 240 f) ∧ fs.length ≤ 999 ∧ QPcs K H Q (outlAll fs)
theorem ok_L_envelope (T : Txt K mg) : FnOk P w K mg base CX0 6 T.L_envelope.f T.L_envelope.fd ["_law_forms"] (spEnv K) := by
  refine T.L_envelope.F.ok sc_L_envelope (fun vs H Q E h => ?_) (fun cdv A outer s H vs Q E hr h => ?_)
  · obtain ⟨l, xs, fs, rfl, _⟩ := h
    rfl
  · obtain ⟨l, xs, fs, rfl, hl, hp, hne, hz, hlen, k⟩ := h
    refine ⟨_, (pss_cons (ps_par (i := 1) (j := 2) (by rfl) sc_L_envelope.nd rfl rfl (by decide) rfl rfl (pa_cons (pe_lst pa_nil) (pa_cons (pe_tup (pa_cons (pe_tup (pa_cons pe_int (pa_cons pe_int pa_nil))) (pa_cons pe_bl pa_nil))) pa_nil)) (by rfl))
      (pss_cons (ps_while PassesOwn.never (pt_cmpR op_notN (pv 2) pe_non (nomark _)) (pss_cons (ps_set (i := 3) sc_L_envelope.nd rfl (Or.inl rfl) pe_non)
      (pss_cons (ps_for PassesOwn.never rfl (pi_list (pv 0)) (pg_name (i := 4) sc_L_envelope.nd rfl (Or.inl rfl)) (pss_cons (ps_set (i := 5) sc_L_envelope.nd rfl (Or.inl rfl) (pe_call (ok_L_top_stretch T) (hr.mono (by decide)) (by rfl) T.L_top_stretch.g T.L_top_stretch.F.kp T.L_top_stretch.b .nil pass0 (pa_cons (pv 0) (pa_cons (pv 4) pa_nil))))
      (pss_one (ps_if (PW.pt (pw_and (pt_cmpR op_notN (pv 5) pe_non (nomark _)) (pw_and1 (pt_not (pt_val (pe_call (ok_L_less T) (hr.mono (by decide)) (by rfl) T.L_less.g T.L_less.F.kp T.L_less.b .nil pass0 (pa_cons (pe_ix ix_tup (pv 2) pe_int (fun _ _ => rfl)) (pa_cons (pe_ix ix_tup (pv 5) pe_int (fun _ _ => rfl)) pa_nil)))))))) (pss_one (ps_if (PW.pt (pw_or (pt_cmpR op_isN (pv 3) pe_non (nomark _)) (pw_or1 (PW.pt (pw_and (pt_cmpR op_notN (pe_ix ix_tup (pv 3) pe_int (fun _ _ => rfl)) pe_non (nomark _)) (pw_and1 (PW.pt (pw_or (pt_cmpR op_isN (pe_ix ix_tup (pv 5) pe_int (fun _ _ => rfl)) pe_non (nomark _)) (pw_or1 (pt_val (pe_call (ok_L_less T) (hr.mono (by decide)) (by rfl) T.L_less.g T.L_less.F.kp T.L_less.b .nil pass0 (pa_cons (pe_ix ix_tup (pv 3) pe_int (fun _ _ => rfl)) (pa_cons (pe_ix ix_tup (pv 5) pe_int (fun _ _ => rfl)) pa_nil))))))))))))) (pss_one (ps_set (i := 3) sc_L_envelope.nd rfl (Or.inl rfl) (pe_tup (pa_cons (pv 4) (pa_cons (pe_ix ix_tup (pv 5) pe_int (fun _ _ => rfl)) pa_nil))))) pss_nil)) pss_nil))))
      (pss_cons (ps_expr (pe_bm PySem.F.plainAttrs_list PySem.F.slot_list_append PySem.F.type_list_append mt_append (pv 1) (pa_cons (pe_tup (pa_cons (pe_tup (pa_cons (pe_ix ix_tup (pv 2) pe_int (fun _ _ => rfl)) (pa_cons (pe_ix ix_tup (pv 2) pe_int (fun _ _ => rfl)) (pa_cons (pe_ix ix_tup (pv 3) pe_int (fun _ _ => rfl)) (pa_cons (pe_cmpR op_notN (pe_ix ix_tup (pv 3) pe_int (fun _ _ => rfl)) pe_non (nomark _)) pa_nil))))) (pa_cons (pe_ix ix_tup (pv 3) pe_int (fun _ _ => rfl)) pa_nil))) pa_nil)))
      (pss_one (ps_set (i := 2) sc_L_envelope.nd rfl (Or.inl rfl) (pe_ifExp (pt_cmpR op_isN (pe_ix ix_tup (pv 3) pe_int (fun _ _ => rfl)) pe_non (nomark _)) pe_non (pe_tup (pa_cons (pe_ix ix_tup (pv 3) pe_int (fun _ _ => rfl)) (pa_cons pe_bl pa_nil))))))))))
      (pss_one (ps_ret (pv 1))))), ?_⟩
    have el : xs.length = fs.length := Paired.length hp
    refine ⟨Nat.zero_le _, fun r nr => ⟨sz2, fun t1 n1 => ⟨sz2, fun t2 n2 => ?_⟩⟩⟩
    have u1 := same_upd (o := .tup [V.int 0, V.int 1]) n1
    have u2 := same_upd (o := .tup [V.ref t1, V.bl true]) n2
    have s0 := same_upd (o := .lst []) nr
    refine ⟨_, _, rfl, InvEnv K H l r fs, ⟨fs.length + 1, s0.trans (u1.trans u2), [], _, none, none, none, [], rfl, (u1.trans u2) _ _ upd_same, .nil, Nat.zero_le _, .inr ⟨t2, _, 0, true, rfl, .inl (.inl upd_same), new0.keep (.of u2), Rat.le_refl, KM.Sz.zero (by decide), rfl, ?_, rfl⟩⟩, ?_⟩
    · have := KM.cnt_le fs (KM.bestOf fs 0)
      omega
    · rintro m σ H1 ⟨s1, ys, sv, y3, y4, y5, dn, rfl, hr1, hys, hdl, hcase⟩
      refine ⟨_, rfl, rfl, _, rfl, ?_⟩
      rcases hcase with ⟨rfl, hdn⟩ | ⟨p, sa, low, c, rfl, hsp, hlow, h0, slow, hout, hcnt, hm⟩
      · refine iteF ?_
        refine ⟨_, rfl, ?_⟩
        exact k r H1 ys s1 nr hr1 (by rw [← hdn]; exact hys)
      · refine iteT ?_
        refine ⟨fun σ' H' => ∃ m', m' < m ∧ InvEnv K H l r fs m' σ' H', fun σ' H' hN => hN, ?_⟩
        -- best = None, the loop
        have hl1 := s1.seq hl
        refine ⟨_, rfl, l, rfl, ⟨_, hl1⟩, for_list (K := K) (a := l) (xs := xs) (fun i σ H' => Same H1 H' ∧ ∃ bv y4 y5, σ = [some (.ref l), some (.ref r), some (.ref p), some bv, y4, y5] ∧ BestV K H' bv ((fs.take i).foldl (KM.envStep fs low) none))
          ⟨Same.refl _, .non, y4, y5, rfl, rfl⟩ (fun i σ H' _ ⟨e, _⟩ => e.seq hl1) ?_ ?_⟩
        · rintro i x σ H2 hi ⟨s2, bv, y4', y5', rfl, hb⟩
          obtain ⟨f, hf, fx⟩ := Paired.get hp hi
          have sf := hz _ (List.mem_of_getElem? hf)
          have fx := fx.keep (.of (s1.trans s2))
          rw [take_more hf, List.foldl_append]
          generalize (fs.take i).foldl (KM.envStep fs low) none = best at *
          have est : List.foldl (KM.envStep fs low) best [f] = KM.envStep fs low best f := rfl
          rw [est]
          refine ⟨_, rfl, _, rfl, l, x, xs, fs, f, rfl, s2.seq hl1, Paired.imp (fun a q h => h.keep (.of (s1.trans s2))) hp, fx, hz, sf, fun ev H3 s3 hev => ?_⟩
          have hb3 := hb.keep (.of s3)
          have fx3 := fx.keep (.of s3)
          have s23 := s2.trans s3
          refine ⟨_, rfl, rfl, _, rfl, ?_⟩
          rw [hev.isn]
          cases et : KM.topS fs f with
          | none =>
            rw [show KM.envStep fs low best f = best from by unfold KM.envStep; rw [et]]
            refine iteF (iteF ?_)
            exact ⟨s23, bv, _, _, rfl, hb3⟩
          | some q =>
            obtain ⟨lo, hi'⟩ := q
            rw [et] at hev
            obtain ⟨pe, ea, eh, rfl, hpe, hea, heh, szlo, szhi⟩ := hev
            have est2 : KM.envStep fs low best f = if low < lo then best else nextBest best f hi' := by
              unfold KM.envStep nextBest
              rw [et]
              rfl
            by_cases hc : low < lo
            · rw [if_pos hc] at est2
              rw [est2]
              refine iteT ?_
              refine ⟨_, rfl, _, _, _, _, rfl, rfl, s23.sqT hsp, rfl, _, rfl, _, _, _, _, rfl, rfl, hpe, rfl, _, _, _, _, rfl, hlow.keep (.of s23), hea, slow.mono (by decide), szlo.mono (by decide), _, rfl, ?_⟩
              exact itF_of (by show (!decide (low < lo)) = false; rw [decide_eq_true hc]; rfl) ⟨s23, bv, _, _, rfl, hb3⟩
            · rw [if_neg hc] at est2
              rw [est2]
              refine iteT ?_
              refine ⟨_, rfl, _, _, _, _, rfl, rfl, s23.sqT hsp, rfl, _, rfl, _, _, _, _, rfl, rfl, hpe, rfl, _, _, _, _, rfl, hlow.keep (.of s23), hea, slow.mono (by decide), szlo.mono (by decide), _, rfl, ?_⟩
              refine itT_of (by show (!decide (low < lo)) = true; rw [decide_eq_false hc]; rfl) ?_
              -- the new best
              have new : ∀ t, H3 t = none → BestV K (upd H3 t (.tup [x, eh])) (.ref t) (some (f, hi')) := fun t nt =>
                ⟨t, _, _, rfl, .inl (.inl upd_same), fx3.keep (tups_new nt), heh.keep (tups_new nt), sf, szhi⟩
              refine ⟨_, rfl, rfl, _, rfl, ?_⟩
              rw [hb3.isN]
              cases best with
              | none =>
                refine iteT (iteT ?_)
                refine ⟨_, rfl, _, rfl, _, _, _, _, rfl, rfl, hpe, rfl, sz2, fun t nt => ?_⟩
                exact ⟨s23.trans (same_upd nt), _, _, _, rfl, new t nt⟩
              | some bq =>
                obtain ⟨bf, bh⟩ := bq
                obtain ⟨pb, ba, bhv, rfl, hpb, hba, hbh, szb, szbh⟩ := id hb3
                refine iteF ?_
                refine ⟨_, rfl, _, _, _, _, rfl, rfl, hpb, rfl, rfl, _, rfl, ?_⟩
                rw [hbh.isn]
                cases bh with
                | none =>
                  refine iteF (iteF ?_)
                  rw [nb_no (show ¬ (KM.hiLt none hi' = true) from Bool.false_ne_true)]
                  exact ⟨s23, _, _, _, rfl, hb3⟩
                | some x1 =>
                  refine iteT ?_
                  refine ⟨_, rfl, _, _, _, _, rfl, rfl, hpe, rfl, rfl, _, rfl, ?_⟩
                  rw [heh.isN]
                  cases hi' with
                  | none =>
                    refine iteT (iteT ?_)
                    rw [nb_yes (show KM.hiLt (some x1) none = true from rfl)]
                    refine ⟨_, rfl, _, rfl, _, _, _, _, rfl, rfl, hpe, rfl, sz2, fun t nt => ?_⟩
                    exact ⟨s23.trans (same_upd nt), _, _, _, rfl, new t nt⟩
                  | some y1 =>
                    refine iteF ?_
                    refine ⟨_, rfl, _, _, _, _, rfl, rfl, hpb, rfl, _, rfl, _, _, _, _, rfl, rfl, hpe, rfl, _, _, _, _, rfl, hbh, heh, (szbh x1 rfl).mono (by decide), (szhi y1 rfl).mono (by decide), _, rfl, ?_⟩
                    show if decide (x1 < y1) = true then _ else _
                    refine ite2 (fun hd => ?_) (fun hd => ?_)
                    · rw [nb_yes (show KM.hiLt (some x1) (some y1) = true from hd)]
                      refine ⟨_, rfl, _, rfl, _, _, _, _, rfl, rfl, hpe, rfl, sz2, fun t nt => ?_⟩
                      exact ⟨s23.trans (same_upd nt), _, _, _, rfl, new t nt⟩
                    · rw [nb_no (show ¬ KM.hiLt (some x1) (some y1) = true from hd)]
                      exact ⟨s23, _, _, _, rfl, hb3⟩
        · rintro σ H2 ⟨s2, bv, y4', y5', rfl, hb⟩
          rw [el, List.take_length] at hb
          have eb : fs.foldl (KM.envStep fs low) none = some (KM.bestOf fs low, KM.nextEnd fs (KM.bestOf fs low)) := KM.envBest_is hne h0
          rw [eb] at hb
          obtain ⟨pb, ba, hv, rfl, hpb, hba, hH, sb, szh⟩ := hb
          have hr2 := s2 _ _ hr1
          have hsp2 := s2.sqT hsp
          -- found.append
          refine ⟨_, rfl, .inl ⟨rfl, _, SqL.of hr2⟩, _, rfl, _, _, _, _, rfl, rfl, hsp2, rfl, _, rfl, _, _, _, _, rfl, rfl, hsp2, rfl, _, rfl, _, _, _, _, rfl, rfl, hpb, rfl, _, rfl, _, _, _, _, rfl, rfl, hpb, rfl, rfl, sz4, fun t nt => ?_⟩
          rw [hH.isn]
          have s4 := (same_upd (o := .tup [sa, V.bl c, hv, V.bl (KM.nextEnd fs (KM.bestOf fs low)).isSome]) nt)
          refine ⟨_, rfl, _, _, _, _, rfl, rfl, s4.sqT hpb, rfl, sz2, fun q nq => ?_⟩
          have s5 := (same_upd (o := .tup [V.ref t, ba]) nq)
          have s45 := s4.trans s5
          have hr5 := s45 _ _ hr2
          have hlenys : ys.length = dn.length := Paired.length hys
          refine ⟨r, _, _, rfl, rfl, hr5, small1000 (by omega), ?_⟩
          generalize hHH : upd (upd (upd H2 t (.tup [sa, V.bl c, hv, V.bl (KM.nextEnd fs (KM.bestOf fs low)).isSome])) q (.tup [V.ref t, ba])) r (.lst (ys ++ [.ref q])) = H6
          have t6 : Tups (upd (upd H2 t (.tup [sa, V.bl c, hv, V.bl (KM.nextEnd fs (KM.bestOf fs low)).isSome])) q (.tup [V.ref t, ba])) H6 := by rw [← hHH]; exact tups_lst hr5
          have hr6 : H6 r = some (.lst (ys ++ [.ref q])) := by rw [← hHH]; exact upd_same
          have sF : Same H H6 := fun b o e => by
            rw [← hHH, upd_ne (ne_of_none e nr)]
            exact ((s1.trans s2).trans s45) _ _ e
          have t2 : Tups H2 H6 := (Tups.of s45).trans t6
          have dn6 : Paired (PcV K H6) (ys ++ [.ref q]) (dn ++ [⟨low, c, KM.nextEnd fs (KM.bestOf fs low), KM.bestOf fs low⟩]) :=
            Paired.append (Paired.imp (fun a q h => (PcV.keep (.of s2) h).keep t2) hys) (Paired.one ⟨q, t, _, _, _, rfl, t6.sqT (.inl (.inl upd_same)), t6.sqT ((Tups.of s5).sqT (.inl (.inl upd_same))), (hlow.keep (.of s2)).keep t2, hH.keep t2, hba.keep t2⟩)
          have hpb6 := t2.sqT hpb
          have hH6 := hH.keep t2
          clear hHH
          refine ⟨_, rfl, _, _, _, _, rfl, rfl, hpb6, rfl, rfl, _, rfl, ?_⟩
          rw [hH.isN]
          obtain ⟨m', rfl, hnone, hsome⟩ := KM.outl_step hne c hcnt
          cases ez : KM.nextEnd fs (KM.bestOf fs low) with
          | none =>
            have e := hnone ez
            rw [e] at hout
            rw [ez] at dn6
            refine iteT ?_
            exact ⟨0, by omega, sF, _, _, _, _, _, _, rfl, hr6, dn6, by rw [List.length_append, List.length_singleton]; omega, .inl ⟨rfl, hout⟩⟩
          | some h =>
            obtain ⟨e, hc2, hlt⟩ := hsome h ez
            rw [e] at hout
            rw [ez] at dn6 hH6
            refine iteF ?_
            refine ⟨_, rfl, _, _, _, _, rfl, rfl, hpb6, rfl, sz2, fun t9 n9 => ?_⟩
            have s9 := same_upd (o := .tup [hv, V.bl false]) n9
            exact ⟨m', by omega, sF.trans s9, _, _, _, _, _, _, rfl, s9 _ _ hr6, Paired.imp (fun a q h => PcV.keep (.of s9) h) dn6, by rw [List.length_append, List.length_singleton]; omega,
              .inr ⟨t9, hv, h, false, rfl, .inl (.inl upd_same), Fr.keep (.of s9) hH6, by grind, szh h ez, by rw [List.append_assoc]; exact hout, hc2, by rw [List.length_append, List.length_singleton]; omega⟩⟩
end
end KX
set_option Elab.async false
set_option linter.all false
set_option maxRecDepth 100000
set_option maxHeartbeats 4000000
set_option exponentiation.threshold 20000
namespace KX
open PySem PySem.Spec PyProof.Rows L2
theorem call_len_seqk {X : Cx} (K : PySem.W.Frag) (h : X.K = K) : CallR X (.builtin "len") (fun xs H Q => ∃ p ys, xs = [.ref p] ∧ (SqL K H p ys ∨ SqT K H p ys) ∧ Q (.int ys.length) H) := by
  subst h
  exact call_len_seq
theorem pe_bmk {X : Cx} (K : PySem.W.Frag) (hK : X.K = K) {T id : String} {name : Str} {r : V → List V → Hp → VK → Prop} {o e : Expr} {es : List Expr} {to : TE} {t : TA} {apos cpos : Pos} (pa : PlainAttrs T) (slot : Slot T name id) (hty : typeOf (.builtin id) = pure (.type "method_descriptor")) (hm : MtR X id r)
    (ho : PE X o to) (ha : PA X (e :: es) t)
    (hbase : attributeBase o name X.env (eval o X.env) = eval o X.env := by rfl)
    (hfew : ((backTo cpos (starEach (e :: es) X.env)).all (fun x => !x.1) && (backToKw cpos (keywordEach [] X.env)).all (fun x => x.1.isSome)
      && decide ((e :: es).length + ([] : List Keyword).length + (if ([] : List Keyword).isEmpty then 0 else 1) < 30)) = true := by rfl)
    (hline : (apos.endLine == cpos.line) = true := by rfl) (hs : starEach (e :: es) X.env = (false, eval e X.env) :: starEach es X.env := by rfl) (hplain : (backTo cpos (starEach es X.env)).any (·.1) = false := by rfl) :
    PE X (.Call (.Attribute o name apos) (e :: es) [] cpos) (tBM K T r to t) := by
  subst hK
  exact pe_bm pa slot hty hm ho ha hbase hfew hline hs hplain
/-! ### the draws' list -/
def DrAt (H : Hp) (a : Addr) : Prop := ∃ c m n : Int, H a = some (.lst [.int c, .int m, .int n])
/-- all is kept but the draws at a -/
structure Dw (a : Addr) (H H' : Hp) : Prop where
  keep : ∀ b o, b ≠ a → H b = some o → H' b = some o
  dr : DrAt H' a
theorem Dw.trans {a : Addr} {H H1 H2 : Hp} (x : Dw a H H1) (y : Dw a H1 H2) : Dw a H H2 := ⟨fun b o n h => y.keep b o n (x.keep b o n h), y.dr⟩
theorem Dw.refl {a : Addr} {H : Hp} (h : DrAt H a) : Dw a H H := ⟨fun _ _ _ h => h, h⟩
theorem DrAt.same {a : Addr} {H H' : Hp} (h : DrAt H a) (s : Same H H') : DrAt H' a := by
  obtain ⟨c, m, n, h⟩ := h
  exact ⟨c, m, n, s _ _ h⟩
theorem Dw.of {a : Addr} {H H' : Hp} (h : DrAt H a) (s : Same H H') : Dw a H H' := ⟨fun b o _ h => s b o h, h.same s⟩
theorem Dw.tups {a : Addr} {H H' : Hp} (h : DrAt H a) (x : Dw a H H') : Tups H H' := fun b o hb k => x.keep b o (fun z => by
  obtain ⟨c, m, n, h⟩ := h
  rw [z, h] at hb
  cases hb
  obtain ⟨xs, k | ⟨_, k⟩⟩ := k <;> cases k) hb
theorem Dw.free {a : Addr} {H H' : Hp} (x : Dw a H H') {b : Addr} (h : H' b = none) : H b = none := by
  cases q : H b with
  | none => rfl
  | some o =>
    by_cases e : b = a
    · obtain ⟨c, m, n, h2⟩ := x.dr
      rw [e, h2] at h
      cases h
    · rw [x.keep b o e q] at h
      cases h
theorem Dw.seq {K : PySem.W.Frag} {a l : Addr} {H H' : Hp} {xs : List V} (x : Dw a H H') (hne : l ≠ a) (h : SqL K H l xs) : SqL K H' l xs := by
  rcases h with (h | ⟨o, h⟩) | h
  · exact .inl (.inl (x.keep _ _ hne h))
  · exact .inl (.inr ⟨o, x.keep _ _ hne h⟩)
  · exact .inr h
theorem DrAt.ne {a l : Addr} {H : Hp} (h : DrAt H a) (n : H l = none) : l ≠ a := fun z => by
  obtain ⟨c, m, k, h⟩ := h
  rw [z, h] at n
  cases n
section
variable {P : Program} {w : World} {K : PySem.W.Frag} {mg : Str → Option Value} {base : Heap}
def spDraw : Sp := fun vs H Q _ => ∃ (a : Addr) (k : Int), vs = [.ref a, .int k] ∧ DrAt H a ∧ 0 < k ∧ k < 1073741824 ∧ ∀ r H', 0 ≤ r → r < k → Dw a H H' → (∀ b, b ≠ a → H' b = H b) → Q (.int r) H'
theorem dw_upd {a : Addr} {H : Hp} {c m n : Int} : Dw a H (upd H a (.lst [.int c, .int m, .int n])) := ⟨fun b o h e => by rw [upd_ne h]; exact e, ⟨c, m, n, upd_same⟩⟩
theorem cmul_r {i j : Int} (h1 : -(2 ^ 64) < j) (h2 : j < 2 ^ 64) : CMul i j := .inr ⟨h1, h2⟩
theorem cmul_l {i j : Int} (h1 : -(2 ^ 64) < i) (h2 : i < 2 ^ 64) : CMul i j := .inl ⟨h1, h2⟩
theorem ok_L_draw (T : Txt K mg) : FnOk P w K mg base CX0 1 T.L_draw.f T.L_draw.fd ["_law_draws", "_law_many"] spDraw := by
  refine T.L_draw.F.ok sc_L_draw (fun vs H Q E h => ?_) (fun cdv A outer s H vs Q E hr h => ?_)
  · obtain ⟨a, k, rfl, _⟩ := h
    rfl
  · obtain ⟨a, k, rfl, ⟨c, m, n, hD⟩, hk, hk2, q⟩ := h
    refine ⟨_, (pss_cons (ps_asg (pe_op op_add (pe_ix ix_list (pv 0) pe_int (fun _ _ => rfl)) pe_int) (pg_sub (pv 0) pe_int set_list))
      (pss_cons (ps_if (pt_cmpR op_gt (pe_ix ix_list (pv 0) pe_int (fun _ _ => rfl)) pe_int (nomark _)) (pss_cons (ps_set (i := 2) sc_L_draw.nd rfl (Or.inl rfl) (pe_op op_mod (pe_callTy call_int1 (by rfl) T.m_int (by decide +kernel) (pa_cons (pe_ix ix_list (pv 0) pe_int (fun _ _ => rfl)) pa_nil)) (pv 1)))
      (pss_cons (ps_asg (pe_op op_fdivN (pe_ix ix_list (pv 0) pe_int (fun _ _ => rfl)) (pv 1)) (pg_sub (pv 0) pe_int set_list))
      (pss_cons (ps_asg (pe_op op_mod (pe_callTy call_int1 (by rfl) T.m_int (by decide +kernel) (pa_cons (pe_op op_add (pe_op op_add (pe_op op_mul (pe_ix ix_list (pv 0) pe_int (fun _ _ => rfl)) pe_int) (pv 2)) (pe_ix ix_list (pv 0) pe_int (fun _ _ => rfl))) pa_nil)) pe_int) (pg_sub (pv 0) pe_int set_list))
      (pss_one (ps_ret (pv 2)))))) pss_nil)
      (pss_cons (ps_asg (pe_op op_mod (pe_callTy call_int1 (by rfl) T.m_int (by decide +kernel) (pa_cons (pe_op op_add (pe_op op_add (pe_op op_mul (pe_ix ix_list (pv 0) pe_int (fun _ _ => rfl)) pe_int) (pe_op op_mul (pe_ix ix_list (pv 0) pe_int (fun _ _ => rfl)) pe_int)) pe_int) pa_nil)) pe_int) (pg_sub (pv 0) pe_int set_list))
      (pss_one (ps_ret (pe_op op_mod (pe_callTy call_int1 (by rfl) T.m_int (by decide +kernel) (pa_cons (pe_op op_add (pe_op op_fdiv (pe_ix ix_list (pv 0) pe_int (fun _ _ => rfl)) pe_int) (pe_ix ix_list (pv 0) pe_int (fun _ _ => rfl))) pa_nil)) (pv 1))))))), ?_⟩
    refine ⟨_, rfl, _, _, _, _, rfl, rfl, SqL.of hD, rfl, _, _, rfl, rfl, _, rfl, _, _, _, _, rfl, rfl, hD, rfl, ?_⟩
    have h1 : upd H a (.lst ([V.int c, V.int m, V.int n].set 2 (V.int (n + 1)))) a = some (.lst [V.int c, V.int m, V.int (n + 1)]) := upd_same
    refine ⟨_, rfl, _, _, _, _, rfl, rfl, SqL.of h1, rfl, _, _, rfl, rfl, _, rfl, ?_⟩
    have oth : ∀ (x y z : V) (H1 : Hp), (∀ b, b ≠ a → H1 b = H b) → ∀ b, b ≠ a → upd H1 a (.lst [x, y, z]) b = H b := fun x y z H1 h b hb => by rw [upd_ne hb]; exact h b hb
    have o1 := oth (V.int c) (V.int m) (V.int (n + 1)) H (fun _ _ => rfl)
    refine ite2 (fun hc => ?_) (fun hc => ?_)
    · refine ⟨_, rfl, _, _, _, _, rfl, rfl, SqL.of h1, rfl, .inl ⟨_, rfl, _, rfl, _, _, rfl, rfl, hk, ?_⟩⟩
      refine ⟨_, rfl, _, _, _, _, rfl, rfl, SqL.of h1, rfl, _, rfl, _, _, rfl, rfl, ⟨by omega, by omega⟩, _, rfl, _, _, _, _, rfl, rfl, h1, rfl, ?_⟩
      have h2 : upd (upd H a (.lst ([V.int c, V.int m, V.int n].set 2 (V.int (n + 1))))) a (.lst ([V.int c, V.int m, V.int (n + 1)].set 0 (V.int (c.fdiv k)))) a = some (.lst [V.int (c.fdiv k), V.int m, V.int (n + 1)]) := upd_same
      have o2 := oth (V.int (c.fdiv k)) (V.int m) (V.int (n + 1)) _ o1
      refine ⟨_, rfl, _, _, _, _, rfl, rfl, SqL.of h2, rfl, _, _, rfl, rfl, cmul_r (by decide) (by decide), _, rfl, _, _, rfl, rfl, _, rfl, _, _, _, _, rfl, rfl, SqL.of h2, rfl, _, _, rfl, rfl, .inl ⟨_, rfl, _, _, rfl, rfl, (by show (0 : Int) < 2147483629; decide), _, rfl, _, _, _, _, rfl, rfl, h2, rfl, _, rfl, ?_⟩⟩
      exact q _ _ (Int.emod_nonneg _ (by omega)) (Int.emod_lt_of_pos _ hk) ⟨fun b o hb e => (upd_ne hb).trans ((o2 b hb).trans e), ⟨_, _, _, upd_same⟩⟩ (fun b hb => (upd_ne hb).trans (o2 b hb))
    · refine ⟨_, rfl, _, _, _, _, rfl, rfl, SqL.of h1, rfl, _, _, rfl, rfl, cmul_r (by decide) (by decide), _, rfl, _, _, _, _, rfl, rfl, SqL.of h1, rfl, _, _, rfl, rfl, cmul_r (by decide) (by decide), _, _, rfl, rfl, _, _, rfl, rfl, .inl ⟨_, rfl, _, _, rfl, rfl, (by show (0 : Int) < 2147483629; decide), _, rfl, _, _, _, _, rfl, rfl, h1, rfl, ?_⟩⟩
      have h2 : upd (upd H a (.lst ([V.int c, V.int m, V.int n].set 2 (V.int (n + 1))))) a (.lst ([V.int c, V.int m, V.int (n + 1)].set 1 (V.int ((m * 40692 + (n + 1) * 6151 + 98765) % 2147483629)))) a = some (.lst [V.int c, V.int ((m * 40692 + (n + 1) * 6151 + 98765) % 2147483629), V.int (n + 1)]) := upd_same
      have o2 := oth (V.int c) (V.int ((m * 40692 + (n + 1) * 6151 + 98765) % 2147483629)) (V.int (n + 1)) _ o1
      refine ⟨_, rfl, _, _, _, _, rfl, rfl, SqL.of h2, rfl, _, _, rfl, rfl, ⟨by decide, by decide⟩, _, rfl, _, _, _, _, rfl, rfl, SqL.of h2, rfl, _, _, rfl, rfl, .inl ⟨_, rfl, _, rfl, _, _, rfl, rfl, hk, ?_⟩⟩
      exact q _ _ (Int.emod_nonneg _ (by omega)) (Int.emod_lt_of_pos _ hk) ⟨fun b o hb e => (o2 b hb).trans e, ⟨_, _, _, upd_same⟩⟩ (fun b hb => o2 b hb)
def spPick (K : PySem.W.Frag) : Sp := fun vs H Q _ => ∃ (a l : Addr) (xs : List V), vs = [.ref a, .ref l] ∧ DrAt H a ∧ SqL K H l xs ∧ l ≠ a ∧ xs ≠ [] ∧ xs.length ≤ 1000 ∧ ∀ v H', v ∈ xs → Dw a H H' → Q v H'
theorem atI_of {xs : List V} {r : Int} (h0 : 0 ≤ r) (h1 : r < xs.length) : ∃ v ∈ xs, atI xs r = some v := by
  obtain ⟨n, rfl⟩ := Int.eq_ofNat_of_zero_le h0
  have hn : n < xs.length := by omega
  exact ⟨xs[n], List.getElem_mem hn, atI_nat (List.getElem?_eq_getElem hn)⟩
theorem ok_L_pick (T : Txt K mg) : FnOk P w K mg base CX0 2 T.L_pick.f T.L_pick.fd ["_law_draws", "_law_xs"] (spPick K) := by
  refine T.L_pick.F.ok sc_L_pick (fun vs H Q E h => ?_) (fun cdv A outer s H vs Q E hr h => ?_)
  · obtain ⟨a, l, xs, rfl, _⟩ := h
    rfl
  · obtain ⟨a, l, xs, rfl, hD, hl, hne, hx, hlen, q⟩ := h
    refine ⟨_, (pss_one (ps_ret (pe_ix ix_list (pv 1) (pe_call (ok_L_draw T) (hr.mono (by decide)) (by rfl) T.L_draw.g T.L_draw.F.kp T.L_draw.b .nil pass0 (pa_cons (pv 0) (pa_cons (pe_callB call_len_seq (by rfl) T.m_len PySem.boot_len (pa_cons (pv 1) pa_nil)) pa_nil))) (fun _ _ => rfl)))), ?_⟩
    have hpos : 0 < xs.length := List.length_pos_iff.mpr hx
    refine ⟨_, rfl, _, rfl, _, rfl, _, _, rfl, .inl hl, _, _, rfl, hD, (by omega), (by omega), fun r H' h0 h1 hw _ => ?_⟩
    obtain ⟨v, hv, ha⟩ := atI_of h0 h1
    exact ⟨_, _, _, _, rfl, rfl, hw.seq hne hl, ha, q v H' hv hw⟩
def spMixed (K : PySem.W.Frag) : Sp := fun vs H Q _ => ∃ (a l : Addr) (xs : List V), vs = [.ref a, .ref l] ∧ DrAt H a ∧ SqL K H l xs ∧ xs.length ≤ 1000 ∧ ∀ r H' ys, Dw a H H' → H r = none → H' r = some (.lst ys) → ys.Perm xs → Q (.ref r) H'
theorem seqIx {n : Nat} {r : Int} (h0 : 0 ≤ r) (h1 : r < n) : seqIndex? r n = some r.toNat := by
  obtain ⟨k, rfl⟩ := Int.eq_ofNat_of_zero_le h0
  unfold seqIndex?
  have h2 : (k : Int) < n := h1
  simp
  omega
theorem perm_pop {α : Type} : ∀ {xs : List α} {i : Nat} {y : α}, xs[i]? = some y → (y :: xs.eraseIdx i).Perm xs
  | [], i, y, h => by simp at h
  | x :: xs, 0, y, h => by
    obtain rfl : x = y := by simpa using h
    exact List.Perm.refl _
  | x :: xs, i + 1, y, h => by
    have ih := perm_pop (xs := xs) (i := i) (y := y) (by simpa using h)
    show (y :: x :: xs.eraseIdx i).Perm (x :: xs)
    exact (List.Perm.swap x y _).trans (List.Perm.cons x ih)
theorem ok_L_mixed (T : Txt K mg) : FnOk P w K mg base CX0 2 T.L_mixed.f T.L_mixed.fd ["_law_draws", "_law_xs"] (spMixed K) := by
  refine T.L_mixed.F.ok sc_L_mixed (fun vs H Q E h => ?_) (fun cdv A outer s H vs Q E hr h => ?_)
  · obtain ⟨a, l, xs, rfl, _⟩ := h
    rfl
  · obtain ⟨a, l, xs, rfl, hD, hl, hlen, q⟩ := h
    refine ⟨_, (pss_cons (ps_set (i := 2) sc_L_mixed.nd rfl (Or.inr rfl) (pe_callTy call_list_of (by rfl) T.m_list (by decide +kernel) (pa_cons (pv 1) pa_nil)))
      (pss_one (ps_ret (pe_lc (own := [("_law_k", 3)]) (g := gName 3) (tt := tYes) rfl sc_L_mixed.nd (pi_range1 (by rfl) T.m_range (pa_cons (pe_callB call_len_seq (by rfl) T.m_len PySem.boot_len (pa_cons (pv 2) pa_nil)) pa_nil)) (blkOk_by (own := [("_law_k", 3)]) (N := ["_law_draws", "_law_xs", "_law_left", "_law_k"]) (sc := defScope s_L_mixed) (by decide +kernel)) (fun _ _ _ _ _ => pg_name (i := 3) sc_L_mixed.nd rfl (Or.inl rfl)) (fun _ _ _ _ _ => pts_nil) (fun _ _ _ _ _ => (pe_bmk K rfl PySem.F.plainAttrs_list PySem.F.slot_list_pop PySem.F.type_list_pop mt_popAt (pv 2) (pa_cons (pe_call (ok_L_draw T) (hr.mono (by decide)) (by rfl) T.L_draw.g T.L_draw.F.kp T.L_draw.b .nil pass0 (pa_cons (pv 0) (pa_cons (pe_callB (call_len_seqk K rfl) (by rfl) T.m_len PySem.boot_len (pa_cons (pv 2) pa_nil)) pa_nil))) pa_nil))))))), ?_⟩
    refine ⟨_, rfl, _, _, rfl, .inl hl, fun L nL => ?_⟩
    have s1 := same_upd (o := .lst xs) nL
    have hDL : DrAt (upd H L (.lst xs)) a := hD.same s1
    have nLa : L ≠ a := hD.ne nL
    refine ⟨_, rfl, L, _, rfl, .inl (SqL.of upd_same), xs.length, rfl, (by omega), (by omega), ?_⟩
    intro D nD
    have nDL : D ≠ L := fun z => by rw [z, upd_same] at nD; cases nD
    have nDa : D ≠ a := hDL.ne nD
    refine lc_range (lo := 0) (n := ((xs.length : Nat) : Int).toNat) (fun i H' => (∀ b o, b ≠ a → H b = some o → H' b = some o) ∧ DrAt H' a ∧ ∃ rest acc, H' L = some (.lst rest) ∧ H' D = some (.lst acc) ∧ (acc ++ rest).Perm xs ∧ acc.length = i) ?_ ?_ ?_
    · refine ⟨fun b o hb e => ?_, hDL.same (same_upd nD), xs, [], ?_, upd_same, List.Perm.refl _, rfl⟩
      · exact (same_upd nD) _ _ (s1 _ _ e)
      · exact (same_upd nD) _ _ upd_same
    · rintro i H1 hi ⟨hk, hd, rest, acc, hL, hDD, hp, hlen2⟩
      have hpl := hp.length_eq
      rw [List.length_append] at hpl
      rw [Int.toNat_natCast] at hi
      refine ⟨rfl, ?_⟩
      refine ⟨_, rfl, .inl ⟨rfl, _, SqL.of hL⟩, _, rfl, _, rfl, _, _, rfl, .inl (SqL.of hL), _, _, rfl, hd, (by omega), (by omega), fun r H2 h0 h1 hw ho => ?_⟩
      have hL2 : H2 L = some (.lst rest) := by rw [ho L nLa]; exact hL
      have hD2 : H2 D = some (.lst acc) := by rw [ho D nDa]; exact hDD
      have hr : r.toNat < rest.length := by omega
      refine ⟨L, rest, r, r.toNat, rest[r.toNat], rfl, rfl, hL2, (by omega), (by omega), seqIx h0 h1, List.getElem?_eq_getElem hr, ?_⟩
      refine ⟨acc, by rw [upd_ne nDL]; exact hD2, small1000 (by omega), fun b o hb e => ?_, ?_, rest.eraseIdx r.toNat, _, by rw [upd_ne nDL.symm]; exact upd_same, upd_same, ?_, ?_⟩
      · have b1 : b ≠ L := ne_of_none e nL
        have b2 : b ≠ D := fun z => by
          have := s1 _ _ e
          rw [z, nD] at this
          cases this
        rw [upd_ne b2, upd_ne b1]
        exact hw.keep b o hb (hk b o hb e)
      · obtain ⟨c, m, n, h3⟩ := hw.dr
        exact ⟨c, m, n, by rw [upd_ne nDa.symm, upd_ne nLa.symm]; exact h3⟩
      · rw [List.append_assoc]
        exact (List.Perm.append_left acc (perm_pop (List.getElem?_eq_getElem hr))).trans hp
      · rw [List.length_append, hlen2]
        rfl
    · rintro H1 ⟨hk, hd, rest, acc, hL, hDD, hp, hlen2⟩
      rw [Int.toNat_natCast] at hlen2
      have hpl := hp.length_eq
      rw [List.length_append] at hpl
      have er : rest = [] := List.length_eq_zero_iff.mp (by omega)
      rw [er, List.append_nil] at hp
      exact q D H1 acc ⟨hk, hd⟩ (s1.free nD) hDD hp
end
end KX
set_option Elab.async false
set_option linter.all false
set_option maxRecDepth 100000
set_option maxHeartbeats 4000000
set_option exponentiation.threshold 20000
namespace KX
open PySem PySem.Spec PyProof.Rows L2
/-! ### what is new -/
def Away (S : Addr → Bool) (H : Hp) : Hp := fun b => if S b = true then none else H b
theorem away_at {S : Addr → Bool} {H : Hp} {b : Addr} (h : S b = false) : Away S H b = H b := by
  unfold Away
  rw [h]
  rfl
theorem away_some {S : Addr → Bool} {H : Hp} {b : Addr} {o : HO} (h : Away S H b = some o) : S b = false ∧ H b = some o := by
  unfold Away at h
  cases e : S b with
  | true => rw [e] at h; cases h
  | false => rw [e] at h; exact ⟨rfl, h⟩
theorem away_same {S S' : Addr → Bool} {H H' : Hp} (h : ∀ b o, S b = false → H b = some o → S' b = false ∧ H' b = some o) : Same (Away S H) (Away S' H') := fun b o e => by
  obtain ⟨e1, e2⟩ := away_some e
  obtain ⟨e3, e4⟩ := h b o e1 e2
  rw [away_at e3]
  exact e4
def Old (H : Hp) : Addr → Bool := fun b => (H b).isSome
theorem old_f {H : Hp} {b : Addr} : Old H b = false ↔ H b = none := by
  unfold Old
  cases H b <;> simp
abbrev NewOf (H H' : Hp) : Hp := Away (Old H) H'
theorem newOf_all {H H' : Hp} : Same (NewOf H H') H' := fun b o e => (away_some e).2
/-- what is new stays so -/
theorem newOf_grow {H H1 H2 : Hp} (h : ∀ b o, H b = none → H1 b = some o → H2 b = some o) : Same (NewOf H H1) (NewOf H H2) := away_same fun b o e1 e2 => ⟨e1, h b o (old_f.mp e1) e2⟩
theorem newOf_sub {H H1 H2 : Hp} (h : ∀ b, H1 b = none → H b = none) : Same (NewOf H1 H2) (NewOf H H2) := away_same fun b o e1 e2 => ⟨old_f.mpr (h b (old_f.mp e1)), e2⟩
theorem newOf_dw {a : Addr} {H H1 H2 : Hp} (hd : DrAt H a) (w : Dw a H1 H2) : Same (NewOf H H1) (NewOf H H2) := newOf_grow fun b o n e => w.keep b o (hd.ne n) e
theorem newOf_same {H H1 H2 : Hp} (s : Same H1 H2) : Same (NewOf H H1) (NewOf H H2) := newOf_grow fun b o _ e => s b o e
/-- trees of ints and tuples, n deep -/
def TD (K : PySem.W.Frag) (H : Hp) : Nat → V → PyData → Prop
  | 0, v, d => ∃ i, v = .int i ∧ d = .int i
  | n + 1, v, d => ∃ p xs ds, v = .ref p ∧ d = .tuple ds ∧ SqT K H p xs ∧ xs.length ≤ 100 ∧ Paired (TD K H n) xs ds
theorem TD.keep {K : PySem.W.Frag} {H H' : Hp} (e : Tups H H') : ∀ {n : Nat} {v : V} {d : PyData}, TD K H n v d → TD K H' n v d
  | 0, _, _, h => h
  | n + 1, _, _, ⟨p, xs, ds, h1, h2, h3, h4, h5⟩ => ⟨p, xs, ds, h1, h2, e.sqT h3, h4, Paired.imp (fun _ _ h => TD.keep e h) h5⟩
/-- the same in lists and tuples -/
def Lo : Nat → PyData → PyData → Prop
  | 0, d, d' => d' = d
  | n + 1, d, d' => ∃ ds ds', seqD d = some ds ∧ seqD d' = some ds' ∧ Paired (Lo n) ds ds'
theorem sqT_ty {K : PySem.W.Frag} {H : Hp} {a : Addr} {xs : List V} (h1 : SqT K H a xs) : TyX K H (.ref a) (.type "tuple") := by
  rcases h1 with (h | ⟨o, h⟩) | ⟨o, its, n, e, c, _⟩
  · exact .base (.tup h)
  · exact .fTuple h
  · exact .kTuple e c
theorem sz5 : 5 ≤ sizeLine := by decide
section
variable {P : Program} {w : World} {K : PySem.W.Frag} {mg : Str → Option Value} {base : Heap}
/-! ### _law_wide, _law_loose, _law_handed -/
def spWide (K : PySem.W.Frag) : Sp := fun vs H Q _ => ∃ (a : Addr) (v : V) (q : Rat), vs = [.ref a, v] ∧ DrAt H a ∧ Fr K H v q ∧ KM.Sz 200 q ∧
  ∀ p H' n b, Dw a H H' → SqT K H' p [.int n, .int b] → 0 < b → n.natAbs < 2 ^ 240 → b.natAbs < 2 ^ 240 → q = mkRat n b.toNat → Q (.ref p) H'
theorem ok_L_wide (T : Txt K mg) : FnOk P w K mg base CX0 3 T.L_wide.f T.L_wide.fd ["_law_draws", "_law_one"] (spWide K) := by
  refine T.L_wide.F.ok sc_L_wide (fun vs H Q E h => ?_) (fun cdv A outer s H vs Q E hr h => ?_)
  · obtain ⟨a, v, q, rfl, _⟩ := h
    rfl
  · obtain ⟨a, _, q, rfl, hD, ⟨p, rfl, hp⟩, sz, k⟩ := h
    refine ⟨_, (pss_cons (ps_set (i := 2) sc_L_wide.nd rfl (Or.inl rfl) (pe_call (ok_L_pick T) (hr.mono (by decide)) (by rfl) T.L_pick.g T.L_pick.F.kp T.L_pick.b .nil pass0 (pa_cons (pv 0) (pa_cons (pe_lst (pa_cons pe_int (pa_cons pe_int (pa_cons pe_int (pa_cons pe_int (pa_cons pe_int pa_nil)))))) pa_nil))))
      (pss_one (ps_ret (pe_tup (pa_cons (pe_op op_mulW (pe_ix ix_tup (pv 1) pe_int (fun _ _ => rfl)) (pv 2)) (pa_cons (pe_op op_mulW (pe_ix ix_tup (pv 1) pe_int (fun _ _ => rfl)) (pv 2)) pa_nil)))))), ?_⟩
    refine ⟨_, rfl, sz5, fun l nl => ?_⟩
    have s1 := same_upd (o := .lst [V.int 1, V.int 1, V.int 2, V.int 3, V.int 10]) nl
    refine ⟨a, l, _, rfl, hD.same s1, SqL.of upd_same, hD.ne nl, (by simp), (by show 5 ≤ 1000; decide), fun v H' hv hw => ?_⟩
    obtain ⟨m, rfl, hm0, hm1⟩ : ∃ m : Nat, v = .int m ∧ 0 < m ∧ m ≤ 10 := by
      simp only [List.mem_cons, List.not_mem_nil, or_false] at hv
      rcases hv with rfl | rfl | rfl | rfl | rfl
      · exact ⟨1, rfl, by decide, by decide⟩
      · exact ⟨1, rfl, by decide, by decide⟩
      · exact ⟨2, rfl, by decide, by decide⟩
      · exact ⟨3, rfl, by decide, by decide⟩
      · exact ⟨10, rfl, by decide, by decide⟩
    have w1 : Dw a H H' := (Dw.of hD s1).trans hw
    have hp' := (w1.tups hD).sqT hp
    have hm : ((m : Nat) : Int).natAbs < 2 ^ 4 := by rw [Int.natAbs_natCast]; omega
    refine ⟨_, rfl, _, _, _, _, rfl, rfl, hp', rfl, _, rfl, _, _, rfl, rfl, wide_mul sz.1 hm (by decide) (by decide) (by decide), _, rfl, _, _, _, _, rfl, rfl, hp', rfl, _, rfl, _, _, rfl, rfl, wide_mul (KM.den_abs sz) hm (by decide) (by decide) (by decide), sz2, fun t nt => ?_⟩
    have s2 := same_upd (o := .tup [V.int (q.num * (m : Nat)), V.int ((q.den : Nat) * ((m : Nat) : Int))]) nt
    have big : ∀ {i : Int}, i.natAbs < 2 ^ (200 + 4) → i.natAbs < 2 ^ 240 := fun h => Nat.lt_of_lt_of_le h (Nat.pow_le_pow_right (by decide) (by decide))
    have hdp : (0 : Int) < ((q.den : Nat) : Int) := Int.natCast_pos.mpr q.den_pos
    refine k t _ _ _ (w1.trans (Dw.of w1.dr s2)) (.inl (.inl upd_same)) (Int.mul_pos hdp (by omega)) (big (KM.mul_abs sz.1 hm)) (big (KM.mul_abs (KM.den_abs sz) hm)) ?_
    have e : (((q.den : Nat) : Int) * ((m : Nat) : Int)).toNat = q.den * m := by
      rw [← Int.natCast_mul, Int.toNat_natCast]
    rw [e, Rat.mkRat_mul_right (by omega), Rat.mkRat_self]
def spLoose (K : PySem.W.Frag) (n : Nat) : Sp := fun vs H Q _ => ∃ (a : Addr) (v : V) (d : PyData), vs = [.ref a, v] ∧ DrAt H a ∧ TD K H n v d ∧
  ∀ v' d' H', Dw a H H' → Lo n d d' → Dat K (NewOf H H') v' d' → Q v' H'
theorem ok_loose0 (T : Txt K mg) : FnOk P w K mg base CX0 2 T.L_loose.f T.L_loose.fd ["_law_draws", "_law_thing"] (spLoose K 0) := by
  refine T.L_loose.F.ok sc_L_loose (fun vs H Q E h => ?_) (fun cdv A outer s H vs Q E hr h => ?_)
  · obtain ⟨a, v, d, rfl, _⟩ := h
    rfl
  · obtain ⟨a, _, _, rfl, hD, ⟨i, rfl, rfl⟩, k⟩ := h
    refine ⟨_, pss_cons (ps_if (pt_not (pt_val (pe_callB call_isiT (by rfl) T.m_isinstance (by decide +kernel) (pa_cons (pv 1) (pa_cons (pe_tup (pa_cons (pe_bltn (v := .ty "list") (by rfl) T.m_list (by decide +kernel) rfl) (pa_cons (pe_bltn (v := .ty "tuple") (by rfl) T.m_tuple (by decide +kernel) rfl) pa_nil))) pa_nil))))) (pss_one (ps_ret (pv 1))) pss_nil) pss_never, ?_⟩
    refine ⟨_, rfl, sz2, fun tp ntp => ⟨_, tp, _, _, _, _, rfl, upd_same, .cons (.ty _) (.cons (.ty _) .nil), .base (.int i), kit_list (.int i), _, rfl, iteT ?_⟩⟩
    exact ⟨_, rfl, k _ _ _ (Dw.of hD (same_upd ntp)) rfl (.int i)⟩
theorem ok_looseS (T : Txt K mg) {n : Nat} (IH : ∀ {base : Heap}, FnOk P w K mg base CX0 (n + 2) T.L_loose.f T.L_loose.fd ["_law_draws", "_law_thing"] (spLoose K n)) : FnOk P w K mg base CX0 (n + 3) T.L_loose.f T.L_loose.fd ["_law_draws", "_law_thing"] (spLoose K (n + 1)) := by
  refine T.L_loose.F.ok sc_L_loose (fun vs H Q E h => ?_) (fun cdv A outer s H vs Q E hr h => ?_)
  · obtain ⟨a, v, d, rfl, _⟩ := h
    rfl
  · obtain ⟨a, _, _, rfl, hD, ⟨p, xs, ds, rfl, rfl, hp, hlen, hall⟩, k⟩ := h
    refine ⟨_, (pss_cons (ps_if (pt_not (pt_val (pe_callB call_isiT (by rfl) T.m_isinstance (by decide +kernel) (pa_cons (pv 1) (pa_cons (pe_tup (pa_cons (pe_bltn (v := .ty "list") (by rfl) T.m_list (by decide +kernel) rfl) (pa_cons (pe_bltn (v := .ty "tuple") (by rfl) T.m_tuple (by decide +kernel) rfl) pa_nil))) pa_nil))))) (pss_one (ps_ret (pv 1))) pss_nil)
      (pss_cons (ps_setLc (i := 2) (own := [("_law_part", 3)]) (g := gName 3) (tt := tYes) (by rfl) sc_L_loose.nd rfl rfl (sw_true rfl rfl rfl (by decide +kernel)) (pi_tup (pv 1)) (blkOk_by (own := [("_law_part", 3)]) (N := ["_law_draws", "_law_thing", "_law_found", "_law_part"]) (sc := defScope s_L_loose) (by decide +kernel)) (fun _ _ _ _ _ => pg_name (i := 3) sc_L_loose.nd rfl (Or.inl rfl)) (fun _ _ _ _ _ => pts_nil) (fun _ _ _ _ _ => (pe_call IH (hr.mono (by omega)) (by rfl) T.L_loose.g T.L_loose.F.kp T.L_loose.b .nil pass0 (pa_cons (pv 0) (pa_cons (pv 3) pa_nil)))))
      (pss_one (ps_ret (pe_ifExp (pt_cmpR op_eq (pe_call (ok_L_draw T) (hr.mono (by omega)) (by rfl) T.L_draw.g T.L_draw.F.kp T.L_draw.b .nil pass0 (pa_cons (pv 0) (pa_cons pe_int pa_nil))) pe_int (nomark _)) (pv 2) (pe_callTy call_tuple_of (by rfl) T.m_tuple (by decide +kernel) (pa_cons (pv 2) pa_nil))))))), ?_⟩
    refine ⟨_, rfl, sz2, fun tp ntp => ⟨_, tp, _, _, _, _, rfl, upd_same, .cons (.ty _) (.cons (.ty _) .nil), sqT_ty ((same_upd ntp).sqT hp), kit_list (.tuple ds), _, rfl, iteF ?_⟩⟩
    have s1 := same_upd (o := .tup [V.ty "list", V.ty "tuple"]) ntp
    have w1 := Dw.of hD s1
    have hp1 := s1.sqT hp
    have el : xs.length = ds.length := Paired.length hall
    generalize upd H tp (.tup [V.ty "list", V.ty "tuple"]) = H1 at s1 w1 hp1
    refine ⟨_, rfl, p, rfl, ⟨_, hp1⟩, fun D nD => lc_tup (K := K) (a := p) (xs := xs) (fun i H' => Dw a H H' ∧ ∃ acc ds', H' D = some (.lst acc) ∧ Paired (Lo n) (ds.take i) ds' ∧ DatAll K (Away (fun b => (H b).isSome || decide (b = D)) H') acc ds')
      ⟨w1.trans (Dw.of w1.dr (same_upd nD)), [], [], upd_same, .nil, .nil⟩ (fun i H' _ ⟨hw, _⟩ => (hw.tups hD).sqT hp) ?_ ?_⟩
    · rintro i x H2 hi ⟨hw, acc, ds', hDD, hlo, hacc⟩
      obtain ⟨d, hd, hx⟩ := Paired.get hall hi
      have nDa : D ≠ a := w1.dr.ne nD
      have nHD : H D = none := s1.free nD
      refine ⟨rfl, ?_⟩
      refine ⟨_, rfl, _, rfl, a, x, d, rfl, hw.dr, hx.keep (hw.tups hD), fun v' d' H3 hw3 hl3 hd3 => ?_⟩
      have hD3 := hw3.keep D _ nDa hDD
      have l1 := Paired.length hlo
      have l2 := hacc.length
      rw [List.length_take] at l1
      refine ⟨acc, hD3, small1000 (by omega), ⟨fun b o nb e => ?_, ?_⟩, acc ++ [v'], ds' ++ [d'], upd_same, ?_, ?_⟩
      · rw [upd_ne (ne_of_none e nHD)]
        exact hw3.keep b o nb (hw.keep b o nb e)
      · obtain ⟨c, m, n, h3⟩ := hw3.dr
        exact ⟨c, m, n, by rw [upd_ne nDa.symm]; exact h3⟩
      · rw [take_more hd]
        exact Paired.append hlo (Paired.one hl3)
      · refine DatAll.append (hacc.k (away_same fun b o e1 e2 => ⟨e1, ?_⟩)) (.cons (hd3.k (away_same fun b o e1 e2 => ?_)) .nil)
        · rw [Bool.or_eq_false_iff] at e1
          have nb : b ≠ D := of_decide_eq_false e1.2
          rw [upd_ne nb]
          exact hw3.keep b o (hD.ne (old_f.mp e1.1)) e2
        · have hb := old_f.mp e1
          have nb : b ≠ D := fun z => by rw [z, hDD] at hb; cases hb
          refine ⟨?_, by rw [upd_ne nb]; exact e2⟩
          rw [Bool.or_eq_false_iff]
          exact ⟨old_f.mpr (hw.free hb), decide_eq_false nb⟩
    · rintro H2 ⟨hw, acc, ds', hDD, hlo, hacc⟩
      rw [el, List.take_length] at hlo
      have nDa : D ≠ a := w1.dr.ne nD
      have nHD : H D = none := s1.free nD
      refine ⟨_, rfl, a, 3, rfl, hw.dr, (by decide), (by decide), fun r H3 h0 h1 hw3 _ => ⟨rfl, _, rfl, ?_⟩⟩
      have hD3 := hw3.keep D _ nDa hDD
      have hw03 := hw.trans hw3
      have acc3 : ∀ H4, Same H3 H4 → DatAll K (NewOf H H4) acc ds' := fun H4 s4 => hacc.k (away_same fun b o e1 e2 => by
        rw [Bool.or_eq_false_iff] at e1
        exact ⟨e1.1, s4 _ _ (hw3.keep b o (hD.ne (old_f.mp e1.1)) e2)⟩)
      refine ite2 (fun hc => ?_) (fun hc => ?_)
      · refine ⟨_, rfl, k _ (.list ds') _ hw03 ⟨ds, ds', rfl, rfl, hlo⟩ (.lst ((away_at (old_f.mpr nHD)).trans hD3) (acc3 H3 (Same.refl _)))⟩
      · refine ⟨_, rfl, D, acc, rfl, .inl ⟨SqL.of hD3, fun t nt => ?_⟩⟩
        have s4 := same_upd (o := .tup acc) nt
        refine k _ (.tuple ds') _ (hw03.trans (Dw.of hw03.dr s4)) ⟨ds, ds', rfl, rfl, hlo⟩ (.tup (.inl (.inl ((away_at (old_f.mpr (hw03.free nt))).trans upd_same))) (acc3 _ s4))
theorem ok_L_loose (T : Txt K mg) : FnOk P w K mg base CX0 4 T.L_loose.f T.L_loose.fd ["_law_draws", "_law_thing"] (spLoose K 2) :=
  ok_looseS T (ok_looseS T (ok_loose0 T))
def spHanded (K : PySem.W.Frag) : Sp := fun vs H Q _ => ∃ (a : Addr) (v : V) (f : Rat × Rat), vs = [.ref a, v] ∧ DrAt H a ∧ FmV K H v f ∧ SzF 200 f ∧ ∀ v' d' H', Dw a H H' → FormOf d' f → Dat K (NewOf H H') v' d' → Q v' H'
theorem ok_L_handed (T : Txt K mg) : FnOk P w K mg base CX0 5 T.L_handed.f T.L_handed.fd ["_law_draws", "_law_form"] (spHanded K) := by
  refine T.L_handed.F.ok sc_L_handed (fun vs H Q E h => ?_) (fun cdv A outer s H vs Q E hr h => ?_)
  · obtain ⟨a, v, f, rfl, _⟩ := h
    rfl
  · obtain ⟨a, _, f, rfl, hD, ⟨p, a1, a2, rfl, hp, ha1, ha2⟩, ⟨s1, s2⟩, k⟩ := h
    refine ⟨_, (pss_one (ps_ret (pe_call (ok_L_loose T) (hr.mono (by decide)) (by rfl) T.L_loose.g T.L_loose.F.kp T.L_loose.b .nil pass0 (pa_cons (pv 0) (pa_cons (pe_tup (pa_cons (pe_call (ok_L_wide T) (hr.mono (by decide)) (by rfl) T.L_wide.g T.L_wide.F.kp T.L_wide.b .nil pass0 (pa_cons (pv 0) (pa_cons (pe_ix ix_tup (pv 1) pe_int (fun _ _ => rfl)) pa_nil))) (pa_cons (pe_call (ok_L_wide T) (hr.mono (by decide)) (by rfl) T.L_wide.g T.L_wide.F.kp T.L_wide.b .nil pass0 (pa_cons (pv 0) (pa_cons (pe_ix ix_tup (pv 1) pe_int (fun _ _ => rfl)) pa_nil))) pa_nil))) pa_nil))))), ?_⟩
    refine ⟨_, rfl, _, rfl, _, rfl, _, _, _, _, rfl, rfl, hp, rfl, a, _, f.1, rfl, hD, ha1, s1, fun t1 H1 n1 b1 w1 ht1 hb1 hn1 hbb1 e1 => ?_⟩
    have u1 := w1.tups hD
    refine ⟨_, rfl, _, rfl, _, _, _, _, rfl, rfl, u1.sqT hp, rfl, a, _, f.2, rfl, w1.dr, ha2.keep u1, s2, fun t2 H2 n2 b2 w2 ht2 hb2 hn2 hbb2 e2 => ⟨sz2, fun t3 nt3 => ?_⟩⟩
    have s3 := same_upd (o := .tup [V.ref t1, V.ref t2]) nt3
    have w3 := w1.trans (w2.trans (Dw.of w2.dr s3))
    have u23 := (w2.tups w1.dr).trans (.of s3)
    refine ⟨a, _, .tuple [.tuple [.int n1, .int b1], .tuple [.int n2, .int b2]], rfl, w3.dr, ⟨t3, _, _, rfl, rfl, .inl (.inl upd_same), (by show 2 ≤ 100; decide), .cons ⟨t1, _, _, rfl, rfl, u23.sqT ht1, (by show 2 ≤ 100; decide), .cons ⟨_, rfl, rfl⟩ (.cons ⟨_, rfl, rfl⟩ .nil)⟩ (.cons ⟨t2, _, _, rfl, rfl, s3.sqT ht2, (by show 2 ≤ 100; decide), .cons ⟨_, rfl, rfl⟩ (.cons ⟨_, rfl, rfl⟩ .nil)⟩ .nil)⟩, fun v' d' H4 w4 hlo hd4 => ?_⟩
    refine k v' d' H4 (w3.trans w4) ?_ (hd4.k (newOf_sub fun b hb => w3.free hb))
    obtain ⟨ds, ds', e3, e4, hl⟩ := hlo
    cases e3
    cases hl with
    | @cons _ x _ _ hl1 hl =>
      cases hl with
      | @cons _ y _ _ hl2 hl =>
        cases hl
        refine ⟨_, _, e4, ?_, ?_⟩
        · obtain ⟨es, es', e5, e6, hq⟩ := hl1
          cases e5
          cases hq with
          | cons q1 hq =>
            cases hq with
            | cons q2 hq =>
              cases hq
              cases q1
              cases q2
              exact ⟨n1, b1, e6, hb1, hn1, hbb1, e1⟩
        · obtain ⟨es, es', e5, e6, hq⟩ := hl2
          cases e5
          cases hq with
          | cons q1 hq =>
            cases hq with
            | cons q2 hq =>
              cases hq
              cases q1
              cases q2
              exact ⟨n2, b2, e6, hb2, hn2, hbb2, e2⟩
end
end KX
set_option Elab.async false
set_option linter.all false
set_option maxRecDepth 100000
set_option maxHeartbeats 4000000
set_option exponentiation.threshold 20000
namespace KX
open PySem PySem.Spec PyProof.Rows L2
theorem sz7 : 7 ≤ sizeLine := by decide
theorem sz8 : 8 ≤ sizeLine := by decide
theorem sz3 : 3 ≤ sizeLine := by decide
theorem frc_1 : frV (mkRat 1 1) = [V.int 1, V.int 1] := by decide +kernel
theorem frc_m1 : frV (mkRat (-1) 1) = [V.int (-1), V.int 1] := by decide +kernel
theorem frc_12 : frV (mkRat 1 2) = [V.int 1, V.int 2] := by decide +kernel
theorem frc_21 : frV (mkRat 2 1) = [V.int 2, V.int 1] := by decide +kernel
theorem frc_m13 : frV (mkRat (-1) 3) = [V.int (-1), V.int 3] := by decide +kernel
theorem frc_m32 : frV (mkRat (-3) 2) = [V.int (-3), V.int 2] := by decide +kernel
theorem frc_m12 : frV (mkRat (-1) 2) = [V.int (-1), V.int 2] := by decide +kernel
theorem small_sz {n k : Nat} {t : Int} {b : Nat} (hb : 0 < b) (h1 : t.natAbs < 2 ^ k) (h2 : b < 2 ^ k) (h : k ≤ n) : KM.Sz n (mkRat t b) := (KM.Sz.mk hb h1 h2).mono h
/-- a fraction of small size -/
def SmFr (K : PySem.W.Frag) (H : Hp) (v : V) : Prop := ∃ q, Fr K H v q ∧ KM.Sz 40 q
theorem SmFr.keep {K : PySem.W.Frag} {H H' : Hp} {v : V} (e : Tups H H') (h : SmFr K H v) : SmFr K H' v := let ⟨q, h1, h2⟩ := h; ⟨q, h1.keep e, h2⟩
theorem smNew {K : PySem.W.Frag} {H : Hp} {p : Addr} {x y : Int} (t : Int) (b : Nat) (e : frV (mkRat t b) = [V.int x, V.int y]) (hb : 0 < b) (h1 : t.natAbs < 2 ^ 40) (h2 : b < 2 ^ 40) : SmFr K (upd H p (.tup [V.int x, V.int y])) (.ref p) :=
  ⟨mkRat t b, ⟨p, rfl, by rw [e]; exact .inl (.inl upd_same)⟩, KM.Sz.mk hb h1 h2⟩
theorem sm0 {K : PySem.W.Frag} {H : Hp} {p : Addr} : SmFr K (upd H p (.tup [V.int 0, V.int 1])) (.ref p) := ⟨0, new0, KM.Sz.zero (by decide)⟩
theorem paired_of {α β : Type} {R : α → β → Prop} {P : β → Prop} : ∀ {ys : List α}, (∀ v ∈ ys, ∃ f, R v f ∧ P f) → ∃ fs, Paired R ys fs ∧ ∀ f ∈ fs, P f
  | [], _ => ⟨[], .nil, fun f hf => by cases hf⟩
  | y :: ys, h => by
    obtain ⟨f, h1, h2⟩ := h y List.mem_cons_self
    obtain ⟨fs, h3, h4⟩ := paired_of (ys := ys) fun v hv => h v (List.mem_cons_of_mem _ hv)
    refine ⟨f :: fs, .cons h1 h3, fun g hg => ?_⟩
    rcases List.mem_cons.mp hg with rfl | hg
    · exact h2
    · exact h4 g hg
theorem paired_mem {α β : Type} {R : α → β → Prop} {P : β → Prop} {ys : List α} {fs : List β} (h : Paired R ys fs) (hP : ∀ f ∈ fs, P f) : ∀ v ∈ ys, ∃ f, R v f ∧ P f := by
  induction h with
  | nil => intro v hv; cases hv
  | cons r t ih =>
    intro v hv
    rcases List.mem_cons.mp hv with rfl | hv
    · exact ⟨_, r, hP _ List.mem_cons_self⟩
    · exact ih (fun f hf => hP f (List.mem_cons_of_mem _ hf)) v hv
section
variable {P : Program} {w : World} {K : PySem.W.Frag} {mg : Str → Option Value} {base : Heap}
def spSomeFr (K : PySem.W.Frag) : Sp := fun vs H Q _ => ∃ (a : Addr), vs = [.ref a] ∧ DrAt H a ∧ ∀ v H', Dw a H H' → SmFr K H' v → Q v H'
theorem ok_L_some_fraction (T : Txt K mg) : FnOk P w K mg base CX0 3 T.L_some_fraction.f T.L_some_fraction.fd ["_law_draws"] (spSomeFr K) := by
  refine T.L_some_fraction.F.ok sc_L_some_fraction (fun vs H Q E h => ?_) (fun cdv A outer s H vs Q E hr h => ?_)
  · obtain ⟨a, rfl, _⟩ := h
    rfl
  · obtain ⟨a, rfl, hD, k⟩ := h
    refine ⟨_, (pss_cons (ps_set (i := 1) sc_L_some_fraction.nd rfl (Or.inl rfl) (pe_call (ok_L_pick T) (hr.mono (by decide)) (by rfl) T.L_pick.g T.L_pick.F.kp T.L_pick.b .nil pass0 (pa_cons (pv 0) (pa_cons (pe_lst (pa_cons pe_int (pa_cons pe_int (pa_cons (pe_un un_neg pe_int) (pa_cons pe_int (pa_cons pe_int (pa_cons (pe_un un_neg pe_int) (pa_cons (pe_op op_sub (pe_call (ok_L_draw T) (hr.mono (by decide)) (by rfl) T.L_draw.g T.L_draw.F.kp T.L_draw.b .nil pass0 (pa_cons (pv 0) (pa_cons pe_int pa_nil))) pe_int) (pa_cons (pe_op op_sub (pe_call (ok_L_draw T) (hr.mono (by decide)) (by rfl) T.L_draw.g T.L_draw.F.kp T.L_draw.b .nil pass0 (pa_cons (pv 0) (pa_cons pe_int pa_nil))) pe_int) pa_nil))))))))) pa_nil))))
      (pss_one (ps_ret (pe_call (ok_L_lowest T) (hr.mono (by decide)) (by rfl) T.L_lowest.g T.L_lowest.F.kp T.L_lowest.b .nil pass0 (pa_cons (pv 1) (pa_cons (pe_call (ok_L_pick T) (hr.mono (by decide)) (by rfl) T.L_pick.g T.L_pick.F.kp T.L_pick.b .nil pass0 (pa_cons (pv 0) (pa_cons (pe_lst (pa_cons pe_int (pa_cons pe_int (pa_cons pe_int (pa_cons pe_int (pa_cons pe_int (pa_cons pe_int (pa_cons pe_int (pa_cons (pe_op op_add pe_int (pe_call (ok_L_draw T) (hr.mono (by decide)) (by rfl) T.L_draw.g T.L_draw.F.kp T.L_draw.b .nil pass0 (pa_cons (pv 0) (pa_cons pe_int pa_nil)))) pa_nil))))))))) pa_nil))) pa_nil)))))), ?_⟩
    refine ⟨_, rfl, _, rfl, _, rfl, _, rfl, a, 41, rfl, hD, by decide, by decide, fun r1 H1 h0 h1 w1 _ => ⟨_, _, rfl, rfl, ?_⟩⟩
    refine ⟨_, rfl, a, 2000001, rfl, w1.dr, by decide, by decide, fun r2 H2 h2 h3 w2 _ => ⟨_, _, rfl, rfl, ?_⟩⟩
    refine ⟨sz8, fun l nl => ?_⟩
    refine ⟨a, l, _, rfl, w2.dr.same (same_upd nl), SqL.of upd_same, w2.dr.ne nl, (by simp), (by show 8 ≤ 1000; decide), fun v H3 hv w3 => ?_⟩
    have w03 := (w1.trans w2).trans ((Dw.of w2.dr (same_upd nl)).trans w3)
    obtain ⟨t, rfl, ht⟩ : ∃ t : Int, v = .int t ∧ t.natAbs ≤ 1000000 := by
      simp only [List.mem_cons, List.not_mem_nil, or_false] at hv
      rcases hv with rfl | rfl | rfl | rfl | rfl | rfl | rfl | rfl
      · exact ⟨_, rfl, by decide⟩
      · exact ⟨_, rfl, by decide⟩
      · exact ⟨_, rfl, by decide⟩
      · exact ⟨_, rfl, by decide⟩
      · exact ⟨_, rfl, by decide⟩
      · exact ⟨_, rfl, by decide⟩
      · exact ⟨_, rfl, by omega⟩
      · exact ⟨_, rfl, by omega⟩
    refine ⟨_, rfl, _, rfl, _, rfl, a, 999, rfl, w3.dr, by decide, by decide, fun r4 H4 h4 h5 w4 _ => ⟨_, _, rfl, rfl, ?_⟩⟩
    refine ⟨sz8, fun l2 nl2 => ?_⟩
    refine ⟨a, l2, _, rfl, w4.dr.same (same_upd nl2), SqL.of upd_same, w4.dr.ne nl2, (by simp), (by show 8 ≤ 1000; decide), fun v2 H5 hv2 w5 => ?_⟩
    have w05 := w03.trans (w4.trans ((Dw.of w4.dr (same_upd nl2)).trans w5))
    obtain ⟨b, rfl, hb0, hb1⟩ : ∃ b : Nat, v2 = .int b ∧ 0 < b ∧ b ≤ 1000 := by
      simp only [List.mem_cons, List.not_mem_nil, or_false] at hv2
      rcases hv2 with rfl | rfl | rfl | rfl | rfl | rfl | rfl | rfl
      · exact ⟨1, rfl, by decide, by decide⟩
      · exact ⟨1, rfl, by decide, by decide⟩
      · exact ⟨1, rfl, by decide, by decide⟩
      · exact ⟨2, rfl, by decide, by decide⟩
      · exact ⟨3, rfl, by decide, by decide⟩
      · exact ⟨4, rfl, by decide, by decide⟩
      · exact ⟨6, rfl, by decide, by decide⟩
      · exact ⟨(1 + r4).toNat, by show V.int (1 + r4) = _; rw [Int.toNat_of_nonneg (by omega)], by omega, by omega⟩
    have big : ∀ {n m : Nat}, n ≤ 1000000 → 20 ≤ m → n < 2 ^ m := fun h1 h2 => Nat.lt_of_lt_of_le (show _ < 2 ^ 20 by omega) (Nat.pow_le_pow_right (by decide) h2)
    refine ⟨t, b, rfl, by omega, big ht (by decide), big (by rw [Int.natAbs_natCast]; omega) (by decide), fun p np => ?_⟩
    refine k _ _ (w05.trans (Dw.of w05.dr (same_upd np))) ⟨_, Fr.new, ?_⟩
    rw [Int.toNat_natCast]
    exact KM.Sz.mk hb0 (big ht (by decide)) (big (by omega) (by decide))
def spSomeForm (K : PySem.W.Frag) : Sp := fun vs H Q _ => ∃ (a : Addr), vs = [.ref a] ∧ DrAt H a ∧ ∀ v f H', Dw a H H' → FmV K H' v f → SzF 200 f → Q v H'
theorem ok_L_some_form (T : Txt K mg) : FnOk P w K mg base CX0 4 T.L_some_form.f T.L_some_form.fd ["_law_draws"] (spSomeForm K) := by
  refine T.L_some_form.F.ok sc_L_some_form (fun vs H Q E h => ?_) (fun cdv A outer s H vs Q E hr h => ?_)
  · obtain ⟨a, rfl, _⟩ := h
    rfl
  · obtain ⟨a, rfl, hD, k⟩ := h
    refine ⟨_, (pss_cons (ps_par (i := 1) (j := 2) (by rfl) sc_L_some_form.nd rfl rfl (by decide) rfl rfl (pa_cons (pe_call (ok_L_some_fraction T) (hr.mono (by decide)) (by rfl) T.L_some_fraction.g T.L_some_fraction.F.kp T.L_some_fraction.b .nil pass0 (pa_cons (pv 0) pa_nil)) (pa_cons (pe_call (ok_L_some_fraction T) (hr.mono (by decide)) (by rfl) T.L_some_fraction.g T.L_some_fraction.F.kp T.L_some_fraction.b .nil pass0 (pa_cons (pv 0) pa_nil)) pa_nil)) (by rfl))
      (pss_one (ps_ret (pe_tup (pa_cons (pv 1) (pa_cons (pe_call (ok_L_pick T) (hr.mono (by decide)) (by rfl) T.L_pick.g T.L_pick.F.kp T.L_pick.b .nil pass0 (pa_cons (pv 0) (pa_cons (pe_lst (pa_cons (pv 2) (pa_cons (pv 2) (pa_cons (pe_tup (pa_cons pe_int (pa_cons pe_int pa_nil))) (pa_cons (pe_tup (pa_cons pe_int (pa_cons pe_int pa_nil))) (pa_cons (pe_tup (pa_cons (pe_un un_neg pe_int) (pa_cons pe_int pa_nil))) pa_nil)))))) pa_nil))) pa_nil)))))), ?_⟩
    refine ⟨_, rfl, a, rfl, hD, fun v1 H1 w1 f1 => ⟨_, rfl, a, rfl, w1.dr, fun v2 H2 w2 f2 => ⟨_, _, rfl, ?_⟩⟩⟩
    have f1 := f1.keep (w2.tups w1.dr)
    refine ⟨_, rfl, _, rfl, _, rfl, _, rfl, sz2, fun t1 n1 => ⟨sz2, fun t2 n2 => ⟨_, rfl, sz2, fun t3 n3 => ⟨sz5, fun l nl => ?_⟩⟩⟩⟩
    have u1 := same_upd (o := .tup [V.int 0, V.int 1]) n1
    have u2 := same_upd (o := .tup [V.int 1, V.int 1]) n2
    have u3 := same_upd (o := .tup [V.int (-1), V.int 2]) n3
    have u4 := same_upd (o := .lst [v2, v2, V.ref t1, V.ref t2, V.ref t3]) nl
    have u14 := u1.trans (u2.trans (u3.trans u4))
    have hd4 := w2.dr.same u14
    refine ⟨a, l, _, rfl, hd4, SqL.of upd_same, (w2.dr.same (u1.trans (u2.trans u3))).ne nl, (by simp), (by show 5 ≤ 1000; decide), fun v H5 hv w5 => ⟨sz2, fun t nt => ?_⟩⟩
    have hv5 : SmFr K H5 v := by
      have t5 := w5.tups hd4
      simp only [List.mem_cons, List.not_mem_nil, or_false] at hv
      rcases hv with rfl | rfl | rfl | rfl | rfl
      · exact (f2.keep (.of u14)).keep t5
      · exact (f2.keep (.of u14)).keep t5
      · exact (sm0.keep (.of (u2.trans (u3.trans u4)))).keep t5
      · exact ((smNew 1 1 frc_1 (by decide) (by decide) (by decide)).keep (.of (u3.trans u4))).keep t5
      · exact ((smNew (-1) 2 frc_m12 (by decide) (by decide) (by decide)).keep (.of u4)).keep t5
    have w05 := (w1.trans w2).trans ((Dw.of w2.dr u14).trans w5)
    have f15 := (f1.keep (.of u14)).keep (w5.tups hd4)
    obtain ⟨q1, g1, z1⟩ := f15
    obtain ⟨q2, g2, z2⟩ := hv5
    exact k (.ref t) (q1, q2) _ (w05.trans (Dw.of w05.dr (same_upd nt))) ⟨t, _, _, rfl, .inl (.inl upd_same), g1.keep (tups_new nt), g2.keep (tups_new nt)⟩ ⟨z1.mono (by decide), z2.mono (by decide)⟩
/-- a small form -/
def SzG (f : Rat × Rat) : Prop := KM.Sz 130 f.1 ∧ KM.Sz 40 f.2
def SmFm (K : PySem.W.Frag) (H : Hp) (v : V) : Prop := ∃ f, FmV K H v f ∧ SzG f
theorem SmFm.keep {K : PySem.W.Frag} {H H' : Hp} {v : V} (e : Tups H H') (h : SmFm K H v) : SmFm K H' v := let ⟨q, h1, h2⟩ := h; ⟨q, h1.keep e, h2⟩
def spFew (K : PySem.W.Frag) : Sp := fun vs H Q _ => ∃ (a : Addr), vs = [.ref a] ∧ DrAt H a ∧ ∀ r H' ys fs, Dw a H H' → H r = none → H' r = some (.lst ys) → Paired (FmV K H') ys fs → fs ≠ [] → (∀ f ∈ fs, SzF 200 f) → fs.length ≤ 100 → Q (.ref r) H'
theorem tups_app {a r : Addr} {H H' : Hp} {vs : List V} {v : V} (h : H r = some (.lst vs)) : Tups H (upd H r (.lst (vs ++ [v]))) := tups_lst h
/-- r's list grows while all else but the draws is kept -/
theorem dw_app {a r : Addr} {H0 H : Hp} {o : HO} (w : Dw a H0 H) (n : H0 r = none) (ne : r ≠ a) : Dw a H0 (upd H r o) := ⟨fun b o nb e => by rw [upd_ne (ne_of_none e n)]; exact w.keep b o nb e, by
  obtain ⟨c, m, k, h⟩ := w.dr
  exact ⟨c, m, k, by rw [upd_ne ne.symm]; exact h⟩⟩
theorem ok_L_few_forms (T : Txt K mg) : FnOk P w K mg base CX0 3 T.L_few_forms.f T.L_few_forms.fd ["_law_draws"] (spFew K) := by
  refine T.L_few_forms.F.ok sc_L_few_forms (fun vs H Q E h => ?_) (fun cdv A outer s H vs Q E hr h => ?_)
  · obtain ⟨a, rfl, _⟩ := h
    rfl
  · obtain ⟨a, rfl, hD, k⟩ := h
    refine ⟨_, (pss_cons (ps_set (i := 1) sc_L_few_forms.nd rfl (Or.inl rfl) (pe_lst pa_nil))
      (pss_cons (ps_for PassesOwn.never rfl (pi_range1 (by rfl) T.m_range (pa_cons (pe_call (ok_L_pick T) (hr.mono (by decide)) (by rfl) T.L_pick.g T.L_pick.F.kp T.L_pick.b .nil pass0 (pa_cons (pv 0) (pa_cons (pe_lst (pa_cons pe_int (pa_cons pe_int (pa_cons pe_int (pa_cons pe_int (pa_cons pe_int pa_nil)))))) pa_nil))) pa_nil)) (pg_name (i := 2) sc_L_few_forms.nd rfl (Or.inl rfl)) (pss_cons (ps_set (i := 3) sc_L_few_forms.nd rfl (Or.inl rfl) (pe_call (ok_L_pick T) (hr.mono (by decide)) (by rfl) T.L_pick.g T.L_pick.F.kp T.L_pick.b .nil pass0 (pa_cons (pv 0) (pa_cons (pe_lst (pa_cons (pe_tup (pa_cons pe_int (pa_cons pe_int pa_nil))) (pa_cons (pe_tup (pa_cons pe_int (pa_cons pe_int pa_nil))) (pa_cons (pe_tup (pa_cons (pe_un un_neg pe_int) (pa_cons pe_int pa_nil))) (pa_cons (pe_tup (pa_cons pe_int (pa_cons pe_int pa_nil))) (pa_cons (pe_tup (pa_cons pe_int (pa_cons pe_int pa_nil))) (pa_cons (pe_tup (pa_cons (pe_un un_neg pe_int) (pa_cons pe_int pa_nil))) (pa_cons (pe_tup (pa_cons (pe_un un_neg pe_int) (pa_cons pe_int pa_nil))) pa_nil)))))))) pa_nil))))
      (pss_one (ps_expr (pe_bm PySem.F.plainAttrs_list PySem.F.slot_list_append PySem.F.type_list_append mt_append (pv 1) (pa_cons (pe_tup (pa_cons (pe_call (ok_L_lowest T) (hr.mono (by decide)) (by rfl) T.L_lowest.g T.L_lowest.F.kp T.L_lowest.b .nil pass0 (pa_cons (pe_op op_sub (pe_call (ok_L_draw T) (hr.mono (by decide)) (by rfl) T.L_draw.g T.L_draw.F.kp T.L_draw.b .nil pass0 (pa_cons (pv 0) (pa_cons pe_int pa_nil))) pe_int) (pa_cons (pe_call (ok_L_pick T) (hr.mono (by decide)) (by rfl) T.L_pick.g T.L_pick.F.kp T.L_pick.b .nil pass0 (pa_cons (pv 0) (pa_cons (pe_lst (pa_cons pe_int (pa_cons pe_int (pa_cons pe_int (pa_cons pe_int pa_nil))))) pa_nil))) pa_nil))) (pa_cons (pv 3) pa_nil))) pa_nil))))))
      (pss_cons (ps_if (pt_cmpR op_eq (pe_call (ok_L_draw T) (hr.mono (by decide)) (by rfl) T.L_draw.g T.L_draw.F.kp T.L_draw.b .nil pass0 (pa_cons (pv 0) (pa_cons pe_int pa_nil))) pe_int (nomark _)) (pss_cons (ps_par (i := 4) (j := 5) (by rfl) sc_L_few_forms.nd rfl rfl (by decide) rfl rfl (pa_cons (pe_tup (pa_cons (pe_call (ok_L_draw T) (hr.mono (by decide)) (by rfl) T.L_draw.g T.L_draw.F.kp T.L_draw.b .nil pass0 (pa_cons (pv 0) (pa_cons pe_int pa_nil))) (pa_cons pe_int pa_nil))) (pa_cons (pe_tup (pa_cons (pe_call (ok_L_draw T) (hr.mono (by decide)) (by rfl) T.L_draw.g T.L_draw.F.kp T.L_draw.b .nil pass0 (pa_cons (pv 0) (pa_cons pe_int pa_nil))) (pa_cons pe_int pa_nil))) pa_nil)) (by rfl))
      (pss_one (ps_for PassesOwn.never rfl (pi_list (pe_slice sl_list (pv 1) po_none (po_some pe_int))) (pg_name (i := 6) sc_L_few_forms.nd rfl (Or.inl rfl)) (pss_cons (ps_set (i := 7) sc_L_few_forms.nd rfl (Or.inl rfl) (pe_call (ok_L_times T) (hr.mono (by decide)) (by rfl) T.L_times.g T.L_times.F.kp T.L_times.b .nil pass0 (pa_cons (pv 4) (pa_cons (pe_tup (pa_cons (pe_op op_sub pe_int (pe_ix ix_tup (pe_ix ix_tup (pv 6) pe_int (fun _ _ => rfl)) pe_int (fun _ _ => rfl))) (pa_cons (pe_ix ix_tup (pe_ix ix_tup (pv 6) pe_int (fun _ _ => rfl)) pe_int (fun _ _ => rfl)) pa_nil))) pa_nil))))
      (pss_one (ps_expr (pe_bm PySem.F.plainAttrs_list PySem.F.slot_list_append PySem.F.type_list_append mt_append (pv 1) (pa_cons (pe_tup (pa_cons (pe_call (ok_L_plus T) (hr.mono (by decide)) (by rfl) T.L_plus.g T.L_plus.F.kp T.L_plus.b .nil pass0 (pa_cons (pv 5) (pa_cons (pv 7) pa_nil))) (pa_cons (pe_ix ix_tup (pv 6) pe_int (fun _ _ => rfl)) pa_nil))) pa_nil)))))))) pss_nil)
      (pss_one (ps_ret (pe_call (ok_L_mixed T) (hr.mono (by decide)) (by rfl) T.L_mixed.g T.L_mixed.F.kp T.L_mixed.b .nil pass0 (pa_cons (pv 0) (pa_cons (pe_op op_cat (pv 1) (pe_slice sl_list (pv 1) po_none (po_some (pe_call (ok_L_draw T) (hr.mono (by decide)) (by rfl) T.L_draw.g T.L_draw.F.kp T.L_draw.b .nil pass0 (pa_cons (pv 0) (pa_cons pe_int pa_nil)))))) pa_nil)))))))), ?_⟩
    refine ⟨Nat.zero_le _, fun r nr => ?_⟩
    have nra : r ≠ a := hD.ne nr
    have w0 := Dw.of hD (same_upd (o := .lst []) nr)
    -- the range
    refine ⟨_, rfl, sz5, fun l nl => ?_⟩
    have u1 := same_upd (o := .lst [V.int 1, V.int 2, V.int 3, V.int 4, V.int 6]) nl
    refine ⟨a, l, _, rfl, w0.dr.same u1, SqL.of upd_same, w0.dr.ne nl, (by simp), (by show 5 ≤ 1000; decide), fun v H1 hv w1 => ?_⟩
    have hr1 : H1 r = some (.lst []) := w1.keep r _ nra (u1 _ _ upd_same)
    have w01 : Dw a H H1 := w0.trans ((Dw.of w0.dr u1).trans w1)
    obtain ⟨n, rfl, hn0, hn1⟩ : ∃ n : Nat, v = .int n ∧ 0 < n ∧ n ≤ 6 := by
      simp only [List.mem_cons, List.not_mem_nil, or_false] at hv
      rcases hv with rfl | rfl | rfl | rfl | rfl
      · exact ⟨1, rfl, by decide, by decide⟩
      · exact ⟨2, rfl, by decide, by decide⟩
      · exact ⟨3, rfl, by decide, by decide⟩
      · exact ⟨4, rfl, by decide, by decide⟩
      · exact ⟨6, rfl, by decide, by decide⟩
    refine ⟨n, rfl, by omega, by omega, for_range (lo := 0) (n := ((n : Nat) : Int).toNat) (fun i σ H' => Dw a H H' ∧ ∃ vs y2 y3 y4 y5 y6 y7, σ = [some (.ref a), some (.ref r), y2, y3, y4, y5, y6, y7] ∧ H' r = some (.lst vs) ∧ vs.length = i ∧ ∀ v ∈ vs, SmFm K H' v)
      ⟨w01, [], none, none, none, none, none, none, rfl, hr1, rfl, fun v hv => by cases hv⟩ ?_ ?_⟩
    · rintro i σ H2 hi ⟨w2, vs, y2, y3, y4, y5, y6, y7, rfl, hr2, hlen, hvs⟩
      -- rise
      refine ⟨_, rfl, sz2, fun t1 n1 => ⟨sz2, fun t2 n2 => ⟨_, rfl, sz2, fun t3 n3 => ⟨sz2, fun t4 n4 => ⟨sz2, fun t5 n5 => ⟨_, rfl, sz2, fun t6 n6 => ⟨_, rfl, sz2, fun t7 n7 => ⟨sz7, fun l3 nl3 => ?_⟩⟩⟩⟩⟩⟩⟩⟩
      have q1 := same_upd (o := .tup [V.int 0, V.int 1]) n1
      have q2 := same_upd (o := .tup [V.int 1, V.int 1]) n2
      have q3 := same_upd (o := .tup [V.int (-1), V.int 1]) n3
      have q4 := same_upd (o := .tup [V.int 1, V.int 2]) n4
      have q5 := same_upd (o := .tup [V.int 2, V.int 1]) n5
      have q6 := same_upd (o := .tup [V.int (-1), V.int 3]) n6
      have q7 := same_upd (o := .tup [V.int (-3), V.int 2]) n7
      have q8 := same_upd (o := .lst [V.ref t1, V.ref t2, V.ref t3, V.ref t4, V.ref t5, V.ref t6, V.ref t7]) nl3
      have q78 := q7.trans q8
      have q68 := q6.trans q78
      have q58 := q5.trans q68
      have q48 := q4.trans q58
      have q38 := q3.trans q48
      have q28 := q2.trans q38
      have q18 := q1.trans q28
      have hall : ∀ v ∈ [V.ref t1, V.ref t2, V.ref t3, V.ref t4, V.ref t5, V.ref t6, V.ref t7], SmFr K (upd (upd (upd (upd (upd (upd (upd (upd H2 t1 (.tup [V.int 0, V.int 1])) t2 (.tup [V.int 1, V.int 1])) t3 (.tup [V.int (-1), V.int 1])) t4 (.tup [V.int 1, V.int 2])) t5 (.tup [V.int 2, V.int 1])) t6 (.tup [V.int (-1), V.int 3])) t7 (.tup [V.int (-3), V.int 2])) l3 (.lst [V.ref t1, V.ref t2, V.ref t3, V.ref t4, V.ref t5, V.ref t6, V.ref t7])) v := by
        intro v hv
        simp only [List.mem_cons, List.not_mem_nil, or_false] at hv
        rcases hv with rfl | rfl | rfl | rfl | rfl | rfl | rfl
        · exact sm0.keep (.of q28)
        · exact (smNew 1 1 frc_1 (by decide) (by decide) (by decide)).keep (.of q38)
        · exact (smNew (-1) 1 frc_m1 (by decide) (by decide) (by decide)).keep (.of q48)
        · exact (smNew 1 2 frc_12 (by decide) (by decide) (by decide)).keep (.of q58)
        · exact (smNew 2 1 frc_21 (by decide) (by decide) (by decide)).keep (.of q68)
        · exact (smNew (-1) 3 frc_m13 (by decide) (by decide) (by decide)).keep (.of q78)
        · exact (smNew (-3) 2 frc_m32 (by decide) (by decide) (by decide)).keep (.of q8)
      have d8 := w2.dr.same q18
      have nl3a : l3 ≠ a := (w2.dr.same (q1.trans (q2.trans (q3.trans (q4.trans (q5.trans (q6.trans q7))))))).ne nl3
      refine ⟨a, l3, _, rfl, d8, SqL.of upd_same, nl3a, (by simp), (by show 7 ≤ 1000; decide), fun rv H3 hrv w3 => ?_⟩
      have hrise := (hall rv hrv).keep (w3.tups d8)
      have w23 : Dw a H2 H3 := (Dw.of w2.dr q18).trans w3
      clear hall
      have hr3 : H3 r = some (.lst vs) := w23.keep r _ nra hr2
      -- append
      refine ⟨_, rfl, .inl ⟨rfl, _, SqL.of hr3⟩, _, rfl, a, 25, rfl, w3.dr, by decide, by decide, fun r4 H4 h4 h5 w4 _ => ⟨_, _, rfl, rfl, ?_⟩⟩
      refine ⟨_, rfl, sz4, fun l5 nl5 => ?_⟩
      have u5 := same_upd (o := .lst [V.int 1, V.int 1, V.int 2, V.int 3]) nl5
      refine ⟨a, l5, _, rfl, w4.dr.same u5, SqL.of upd_same, w4.dr.ne nl5, (by simp), (by show 4 ≤ 1000; decide), fun bv H6 hbv w6 => ?_⟩
      obtain ⟨b, rfl, hb0, hb1⟩ : ∃ b : Nat, bv = .int b ∧ 0 < b ∧ b ≤ 3 := by
        simp only [List.mem_cons, List.not_mem_nil, or_false] at hbv
        rcases hbv with rfl | rfl | rfl | rfl
        · exact ⟨1, rfl, by decide, by decide⟩
        · exact ⟨1, rfl, by decide, by decide⟩
        · exact ⟨2, rfl, by decide, by decide⟩
        · exact ⟨3, rfl, by decide, by decide⟩
      have big : ∀ {n m : Nat}, n ≤ 100 → 20 ≤ m → n < 2 ^ m := fun h1 h2 => Nat.lt_of_lt_of_le (show _ < 2 ^ 20 by omega) (Nat.pow_le_pow_right (by decide) h2)
      refine ⟨_, _, rfl, by omega, big (by omega) (by decide), big (by omega) (by decide), fun p np => ?_⟩
      have w36 : Dw a H3 H6 := w4.trans ((Dw.of w4.dr u5).trans w6)
      have u7 := same_upd (o := .tup (frV (mkRat (r4 - 12) ((b : Nat) : Int).toNat))) np
      refine ⟨_, rfl, sz2, fun t nt => ?_⟩
      have u8 := same_upd (o := .tup [V.ref p, rv]) nt
      have w38 := w36.trans ((Dw.of w36.dr u7).trans (Dw.of (w36.dr.same u7) u8))
      have hr8 := w38.keep r _ nra hr3
      refine ⟨r, vs, _, rfl, rfl, hr8, small1000 (by rw [Int.toNat_natCast] at hi; omega), ?_⟩
      have w08 := w2.trans (w23.trans w38)
      refine ⟨dw_app w08 nr nra, _, _, _, _, _, _, _, rfl, upd_same, by rw [List.length_append, hlen]; rfl, fun v hv => ?_⟩
      have t9 := tups_lst (o := .lst (vs ++ [V.ref t])) hr8
      rcases List.mem_append.mp hv with hv | hv
      · exact (((hvs v hv).keep (w23.tups w2.dr)).keep (w38.tups w3.dr)).keep t9
      · obtain rfl := List.mem_singleton.mp hv
        obtain ⟨q, hq, zq⟩ := hrise.keep (w38.tups w3.dr)
        refine ⟨(_, q), ⟨t, _, _, rfl, t9.sqT (.inl (.inl upd_same)), (Fr.new.keep (.of u8)).keep t9, hq.keep t9⟩, ⟨?_, zq.mono (by decide)⟩⟩
        rw [Int.toNat_natCast]
        exact KM.Sz.mk hb0 (big (by omega) (by decide)) (big (by omega) (by decide))
    · rintro σ H2 ⟨w2, vs, y2, y3, y4, y5, y6, y7, rfl, hr2, hlen, hvs⟩
      rw [Int.toNat_natCast] at hlen
      -- the end: mixed
      have last : ∀ (σ' : L2.St) (H' : Hp), (Dw a H H' ∧ ∃ vs y2 y3 y4 y5 y6 y7, σ' = [some (.ref a), some (.ref r), y2, y3, y4, y5, y6, y7] ∧ H' r = some (.lst vs) ∧ vs ≠ [] ∧ vs.length ≤ 20 ∧ ∀ v ∈ vs, SmFm K H' v) →
          (tRet (tCall (spMixed K) [] E0 (tCons (tVar 0) (tCons (tOp rCat (tVar 1) (tSl (rSlL K) (tVar 1) tNoPart (tPart (tCall spDraw [] E0 (tCons (tVar 0) (tCons (tC (.int 2)) tNil)))))) tNil))) : TS) { nx := fun _ H' => Q .non H', rt := Q } σ' H' := by
        rintro σ' H' ⟨w', vs, y2, y3, y4, y5, y6, y7, rfl, hr', hne, hlen, hvs⟩
        refine ⟨_, rfl, _, rfl, _, rfl, _, rfl, a, 2, rfl, w'.dr, by decide, by decide, fun x H3 h0 h1 w3 _ => ⟨x, rfl, r, vs, rfl, SqL.of (w3.keep r _ nra hr'), fun p np => ?_⟩⟩
        have hr3 := w3.keep r _ nra hr'
        have u4 := same_upd (o := .lst (cutV vs none (some x))) np
        have hcl : (cutV vs none (some x)).length ≤ vs.length := cutV_length _ _ _
        refine ⟨r, p, vs, _, rfl, rfl, u4 _ _ hr3, upd_same, Nat.le_trans (show _ ≤ 1000 by omega) (by decide), fun t nt => ?_⟩
        have u5 := same_upd (o := .lst (vs ++ cutV vs none (some x))) nt
        have d5 := w3.dr.same (u4.trans u5)
        refine ⟨a, t, _, rfl, d5, SqL.of upd_same, by rw [List.length_append]; omega, fun r6 H6 ys w6 nr6 hr6 hperm => ?_⟩
        have w36 : Dw a H' H6 := w3.trans ((Dw.of w3.dr (u4.trans u5)).trans w6)
        obtain ⟨fs, hfs, hsz⟩ := paired_of (R := FmV K H6) (P := SzG) (ys := ys) fun v hv => by
          have hv := hperm.mem_iff.mp hv
          have : v ∈ vs := by
            rcases List.mem_append.mp hv with h | h
            · exact h
            · unfold cutV at h
              exact List.mem_of_mem_drop (List.mem_of_mem_take h)
          exact (hvs v this).keep (w36.tups w'.dr)
        have hl1 := Paired.length hfs
        have hl2 := hperm.length_eq
        rw [List.length_append] at hl2
        have hv0 : 0 < vs.length := List.length_pos_iff.mpr hne
        refine k r6 H6 ys fs (w'.trans w36) ?_ hr6 hfs ?_ (fun f hf => ⟨(hsz f hf).1.mono (by decide), (hsz f hf).2.mono (by decide)⟩) (by omega)
        · exact (w'.trans w3).free ((u4.trans u5).free nr6)
        · intro z
          have : ys.length = 0 := by rw [hl1, z]; rfl
          omega
      -- if draw == 0
      refine ⟨_, rfl, a, 4, rfl, w2.dr, by decide, by decide, fun x H3 h0 h1 w3 _ => ⟨rfl, _, rfl, ?_⟩⟩
      have hr3 := w3.keep r _ nra hr2
      have hvs3 := fun v hv => (hvs v hv).keep (w3.tups w2.dr)
      have w03 := w2.trans w3
      have hne : vs ≠ [] := fun z => by
        rw [z] at hlen
        simp at hlen
        omega
      refine ite2 (fun hc => ?_) (fun hc => ?_)
      · refine ⟨_, rfl, a, 6, rfl, w3.dr, by decide, by decide, fun x1 H4 h2 h3 w4 _ => ⟨sz2, fun t1 nt1 => ?_⟩⟩
        have u4 := same_upd (o := .tup [V.int x1, V.int 1]) nt1
        refine ⟨_, rfl, a, 9, rfl, w4.dr.same u4, by decide, by decide, fun x2 H5 h4 h5 w5 _ => ⟨sz2, fun t2 nt2 => ⟨_, _, rfl, ?_⟩⟩⟩
        have u5 := same_upd (o := .tup [V.int x2, V.int 1]) nt2
        have w35 : Dw a H3 (upd H5 t2 (.tup [V.int x2, V.int 1])) := w4.trans ((Dw.of w4.dr u4).trans (w5.trans (Dw.of w5.dr u5)))
        have one : ∀ {x : Int} {H : Hp} {t : Addr}, 0 ≤ x → x < 100 → SmFr K (upd H t (.tup [V.int x, V.int 1])) (.ref t) := fun {x H t} h0 h1 => by
          refine ⟨((x.toNat : Nat) : Rat), ⟨t, rfl, .inl (.inl ?_)⟩, ?_, ?_⟩
          · show upd H t _ t = some (.tup [V.int (((x.toNat : Nat) : Rat)).num, V.int (((x.toNat : Nat) : Rat)).den])
            rw [upd_same, Rat.num_natCast, Rat.den_natCast, Int.toNat_of_nonneg h0]
            rfl
          · rw [Rat.num_natCast, Int.natAbs_natCast]
            exact Nat.lt_of_lt_of_le (show _ < 2 ^ 20 by omega) (Nat.pow_le_pow_right (by decide) (by decide))
          · rw [Rat.den_natCast]
            exact Nat.one_lt_two_pow (by decide)
        have hpoint : SmFr K (upd H5 t2 (.tup [V.int x2, V.int 1])) (.ref t1) := (((one (H := H4) h2 (by omega)).keep (w5.tups (w4.dr.same u4)))).keep (.of u5)
        have hworth : SmFr K (upd H5 t2 (.tup [V.int x2, V.int 1])) (.ref t2) := one h4 (by omega)
        have hr5 := w35.keep r _ nra hr3
        have hvs5 := fun v hv => (hvs3 v hv).keep (w35.tups w3.dr)
        have w05 := w03.trans w35
        generalize upd H5 t2 (.tup [V.int x2, V.int 1]) = H6 at w35 hpoint hworth hr5 hvs5 w05
        -- for form in found[:3]
        refine ⟨_, rfl, 3, rfl, r, vs, rfl, SqL.of hr5, fun l nl => ?_⟩
        have u6 := same_upd (o := .lst (cutV vs none (some 3))) nl
        have hcl : (cutV vs none (some 3)).length ≤ vs.length := cutV_length _ _ _
        have nlr : l ≠ r := fun z => by rw [z, hr5] at nl; cases nl
        have nla : l ≠ a := w05.dr.ne nl
        have d6 := w05.dr.same u6
        have w06 := w05.trans (Dw.of w05.dr u6)
        refine ⟨l, rfl, ⟨_, SqL.of upd_same⟩, for_list (K := K) (a := l) (xs := cutV vs none (some 3)) (fun i σ H' => Dw a H H' ∧ H' l = some (.lst (cutV vs none (some 3))) ∧ Tups H6 H' ∧ ∃ vs' y2 y3 y6 y7, σ = [some (.ref a), some (.ref r), y2, y3, some (.ref t1), some (.ref t2), y6, y7] ∧ H' r = some (.lst vs') ∧ vs' ≠ [] ∧ vs'.length = vs.length + i ∧ ∀ v ∈ vs', SmFm K H' v)
          ⟨w06, upd_same, .of u6, vs, _, _, _, _, rfl, u6 _ _ hr5, hne, rfl, fun v hv => (hvs5 v hv).keep (.of u6)⟩ (fun i σ H' _ ⟨_, h, _⟩ => SqL.of h) ?_ ?_⟩
        · rintro i z σ H7 hi ⟨w7, hl7, t67, vs', y2', y3', y6', y7', rfl, hr7, hne', hlen', hvs'⟩
          have hz : z ∈ vs := by
            have := List.mem_of_getElem? hi
            unfold cutV at this
            exact List.mem_of_mem_drop (List.mem_of_mem_take this)
          obtain ⟨f, ⟨pf, fa, fb, rfl, hpf, hfa, ⟨qb, rfl, hqb⟩⟩, szf⟩ := (hvs5 z hz).keep t67
          have hil : i < (cutV vs none (some 3)).length := (List.getElem?_eq_some_iff.mp hi).1
          -- back
          refine ⟨_, rfl, _, rfl, _, _, _, _, rfl, rfl, hpf, rfl, _, _, _, _, rfl, rfl, hqb, rfl, _, _, rfl, rfl, _, rfl, _, _, _, _, rfl, rfl, hpf, rfl, _, _, _, _, rfl, rfl, hqb, rfl, sz2, fun t3 nt3 => ?_⟩
          have u8 := same_upd (o := .tup [V.int (0 - f.2.num), V.int (f.2.den : Nat)]) nt3
          obtain ⟨pq, hpq, zpq⟩ := hpoint.keep (t67.trans (.of u8))
          obtain ⟨wq, hwq, zwq⟩ := hworth.keep (t67.trans (.of u8))
          have hneg : Fr K (upd H7 t3 (.tup [V.int (0 - f.2.num), V.int (f.2.den : Nat)])) (.ref t3) (-f.2) := ⟨t3, rfl, by rw [fr_neg]; exact .inl (.inl upd_same)⟩
          refine ⟨_, _, _, _, rfl, hpq, hneg, zpq.mono (by decide), szf.2.neg.mono (by decide), fun t4 nt4 => ?_⟩
          have u9 := same_upd (o := .tup (frV (pq * -f.2))) nt4
          have u89 := u8.trans u9
          -- append
          refine ⟨_, rfl, .inl ⟨rfl, _, SqL.of (u89 _ _ hr7)⟩, _, rfl, _, rfl, _, _, _, _, rfl, hwq.keep (.of u9), Fr.new, zwq.mono (by decide), (zpq.mul szf.2.neg).mono (by decide), fun t5 nt5 => ?_⟩
          have u10 := same_upd (o := .tup (frV (wq + pq * -f.2))) nt5
          have u80 := u89.trans u10
          refine ⟨_, rfl, _, _, _, _, rfl, rfl, u80.sqT hpf, rfl, sz2, fun t6 nt6 => ?_⟩
          have u11 := same_upd (o := .tup [V.ref t5, V.ref qb]) nt6
          have u81 := u80.trans u11
          have hr11 := u81 _ _ hr7
          refine ⟨r, vs', _, rfl, rfl, hr11, small1000 (by omega), ?_⟩
          have t12 := tups_lst (o := .lst (vs' ++ [V.ref t6])) hr11
          refine ⟨dw_app (w7.trans (Dw.of w7.dr u81)) nr nra, by rw [upd_ne nlr]; exact u81 _ _ hl7, (t67.trans (.of u81)).trans t12, _, _, _, _, _, rfl, upd_same, by simp, by rw [List.length_append, hlen']; rfl, fun v hv => ?_⟩
          rcases List.mem_append.mp hv with hv | hv
          · exact ((hvs' v hv).keep (.of u81)).keep t12
          · obtain rfl := List.mem_singleton.mp hv
            exact ⟨(wq + pq * -f.2, f.2), ⟨t6, _, _, rfl, t12.sqT (.inl (.inl upd_same)), (Fr.new.keep (.of u11)).keep t12, Fr.keep t12 ⟨qb, rfl, u81.sqT hqb⟩⟩, ⟨(zwq.add (zpq.mul szf.2.neg)).mono (by decide), szf.2⟩⟩
        · rintro σ H7 ⟨w7, hl7, t67, vs', y2', y3', y6', y7', rfl, hr7, hne', hlen', hvs'⟩
          exact last _ _ ⟨w7, vs', _, _, _, _, _, _, rfl, hr7, hne', by omega, hvs'⟩
      · exact last _ _ ⟨w03, vs, _, _, _, _, _, _, rfl, hr3, hne, by omega, hvs3⟩
end
end KX
set_option Elab.async false
set_option linter.all false
set_option maxRecDepth 100000
set_option maxHeartbeats 4000000
set_option exponentiation.threshold 20000
namespace KX
open PySem PySem.Spec PyProof.Rows L2
theorem cutV_ints (ns : List Int) (lo hi : Option Int) : ∃ ms : List Int, cutV (ns.map V.int) lo hi = ms.map V.int := by
  unfold cutV
  exact ⟨(ns.drop _).take _, by rw [List.map_take, List.map_drop]⟩
theorem tIf_valH {k : Bool} {ta tb : TE} {σ : L2.St} {H : Hp} {Q : VK} (G : V → Hp → Prop) (h1 : k = true → ∀ Q' : VK, (∀ v H', G v H' → Q' v H') → ta σ H Q') (h2 : k = false → ∀ Q' : VK, (∀ v H', G v H' → Q' v H') → tb σ H Q') (fin : ∀ v H', G v H' → Q v H') :
    if k = true then ta σ H Q else tb σ H Q := by
  cases k with
  | true => exact iteT (h1 rfl _ fin)
  | false => exact iteF (h2 rfl _ fin)
section
variable {P : Program} {w : World} {K : PySem.W.Frag} {mg : Str → Option Value} {base : Heap}
def spSource (K : PySem.W.Frag) : Sp := fun vs H Q _ => ∃ (l : Addr) (ns : List Int) (t : Nat), vs = [.ref l, .int t] ∧ SqL K H l (ns.map V.int) ∧ t ≤ 1000 ∧ ∀ r H', Same H H' → H r = none → DrAt H' r → Q (.ref r) H'
theorem ok_L_source (T : Txt K mg) : FnOk P w K mg base CX0 3 T.L_source.f T.L_source.fd ["_law_script", "_law_turn"] (spSource K) := by
  refine T.L_source.F.ok sc_L_source (fun vs H Q E h => ?_) (fun cdv A outer s H vs Q E hr h => ?_)
  · obtain ⟨l, ns, t, rfl, _⟩ := h
    rfl
  · obtain ⟨l, ns, t, rfl, hl, ht, k⟩ := h
    refine ⟨_, (pss_cons (ps_set (i := 2) sc_L_source.nd rfl (Or.inl rfl) (pe_ifExp (pt_cmpR op_lt (pv 1) (pe_callB call_len_seq (by rfl) T.m_len PySem.boot_len (pa_cons (pv 0) pa_nil)) (nomark _)) (pe_ix ix_list (pv 0) (pv 1) (fun _ _ => rfl)) (pe_op op_add (pe_op op_add (pe_op op_mod (pe_callTy call_int1 (by rfl) T.m_int (by decide +kernel) (pa_cons (pe_callB (cr_sum rfl) (by rfl) T.m_sum (by decide +kernel) (pa_cons (pe_slice sl_list (pv 0) po_none (po_some pe_int)) pa_nil)) pa_nil)) pe_int) (pe_op op_mul pe_int (pv 1))) pe_int)))
      (pss_cons (ps_set (i := 3) sc_L_source.nd rfl (Or.inl rfl) (pe_op op_add (pe_op op_mul pe_int (pv 1)) pe_int))
      (pss_cons (ps_for PassesOwn.never rfl (pi_list (pv 0)) (pg_name (i := 4) sc_L_source.nd rfl (Or.inl rfl)) (pss_one (ps_set (i := 3) sc_L_source.nd rfl (Or.inl rfl) (pe_op op_mod (pe_callTy call_int1 (by rfl) T.m_int (by decide +kernel) (pa_cons (pe_op op_add (pe_op op_add (pe_op op_mul (pv 3) pe_int) (pe_op op_mod (pv 4) pe_int)) pe_int) pa_nil)) pe_int))))
      (pss_one (ps_ret (pe_lst (pa_cons (pe_ifExp (pt_cmpR op_ge (pv 2) (pe_op op_pow pe_int pe_int) (nomark _)) (pv 2) pe_int) (pa_cons (pe_op op_mod (pe_callTy call_int1 (by rfl) T.m_int (by decide +kernel) (pa_cons (pe_op op_add (pv 3) (pv 2)) pa_nil)) pe_int) (pa_cons pe_int pa_nil))))))))), ?_⟩
    have hlen : ((ns.map V.int).length : Int) = ns.length := by rw [List.length_map]
    refine ⟨_, rfl, _, rfl, l, _, rfl, .inl hl, _, _, rfl, rfl, _, rfl, ?_⟩
    refine tIf_valH (fun v H' => ∃ c : Int, v = .int c ∧ Same H H' ∧ ∀ b, H' b = none → H b = none) (fun hk Q' hQ' => ?_) (fun hk Q' hQ' => ?_) ?_
    · have hlt : t < ns.length := by
        have := of_decide_eq_true hk
        rw [hlen] at this
        omega
      obtain ⟨v, hv, ha⟩ := atI_of (xs := ns.map V.int) (r := (t : Int)) (by omega) (by rw [hlen]; omega)
      obtain ⟨i, _, rfl⟩ := List.mem_map.mp hv
      exact ⟨_, rfl, _, rfl, _, _, _, _, rfl, rfl, hl, ha, hQ' _ _ ⟨i, rfl, Same.refl _, fun _ h => h⟩⟩
    · obtain ⟨ms, hms⟩ := cutV_ints ns none (some 1)
      refine ⟨_, rfl, 1, rfl, l, _, rfl, hl, fun p np => ⟨p, ms, rfl, by rw [hms]; exact SqL.of upd_same, .inl ⟨_, rfl, _, _, rfl, rfl, (by show (0 : Int) < 1000003; decide), _, rfl, _, _, rfl, rfl, cmul_r (by omega) (by omega), _, _, rfl, rfl, _, _, rfl, rfl, hQ' _ _ ⟨_, rfl, same_upd np, fun _ h => (same_upd np).free h⟩⟩⟩⟩
    · rintro v H1 ⟨c, rfl, s1, f1⟩
      refine ⟨_, rfl, _, _, rfl, rfl, cmul_r (by omega) (by omega), _, _, rfl, rfl, ?_⟩
      refine ⟨_, rfl, l, rfl, ⟨_, s1.seq hl⟩, for_list (K := K) (a := l) (xs := ns.map V.int) (fun i σ H' => H' = H1 ∧ ∃ (m : Int) (y4 : Option V), σ = [some (.ref l), some (.int t), some (.int c), some (.int m), y4])
        ⟨rfl, _, _, rfl⟩ (fun i σ H' _ ⟨h, _⟩ => by rw [h]; exact s1.seq hl) ?_ ?_⟩
      · rintro i x σ H' hi ⟨rfl, m, y4, rfl⟩
        obtain ⟨z, _, rfl⟩ := List.mem_map.mp (List.mem_of_getElem? hi)
        exact ⟨_, rfl, _, _, rfl, rfl, cmul_r (by decide) (by decide), _, rfl, _, _, rfl, rfl, (by show (0 : Int) < 2147483647; decide), _, _, rfl, rfl, _, _, rfl, rfl, .inl ⟨_, rfl, _, _, rfl, rfl, (by show (0 : Int) < 2147483629; decide), rfl, _, _, rfl⟩⟩
      · rintro σ H' ⟨rfl, m, y4, rfl⟩
        refine ⟨_, rfl, _, _, rfl, rfl, ⟨by decide, by decide, by decide⟩, _, _, rfl, rfl, _, rfl, ?_⟩
        refine tIf_valH (fun v H2 => ∃ c : Int, v = .int c ∧ H2 = H') (fun hk Q' hQ' => ?_) (fun hk Q' hQ' => ?_) ?_
        · exact ⟨_, rfl, hQ' _ _ ⟨_, rfl, rfl⟩⟩
        · exact hQ' _ _ ⟨_, rfl, rfl⟩
        · rintro v H2 ⟨c2, rfl, rfl⟩
          refine ⟨_, rfl, _, rfl, _, _, rfl, rfl, .inl ⟨_, rfl, _, _, rfl, rfl, (by show (0 : Int) < 2147483629; decide), sz3, fun r nr => ?_⟩⟩
          exact k _ _ (s1.trans (same_upd nr)) (f1 _ nr) ⟨_, _, _, upd_same⟩
end
end KX
set_option Elab.async false
set_option linter.all false
set_option maxRecDepth 100000
set_option maxHeartbeats 4000000
set_option exponentiation.threshold 20000
namespace KX
open PySem PySem.Spec PyProof.Rows L2
/-- all but the draws -/
def Off (a : Addr) (H : Hp) : Hp := Away (fun b => decide (b = a)) H
theorem off_dw {a : Addr} {H H' : Hp} (w : Dw a H H') : Same (Off a H) (Off a H') := away_same fun b o e h => ⟨e, w.keep b o (of_decide_eq_false e) h⟩
theorem off_same {a : Addr} {H H' : Hp} (w : Same H H') : Same (Off a H) (Off a H') := away_same fun b o e h => ⟨e, w b o h⟩
theorem off_all {a : Addr} {H : Hp} : Same (Off a H) H := fun b o e => (away_some e).2
theorem off_tups {a : Addr} {H : Hp} (h : DrAt H a) : Tups H (Off a H) := fun b o hb k => (away_at (decide_eq_false fun z => by
  obtain ⟨c, m, n, h⟩ := h
  rw [z, h] at hb
  cases hb
  obtain ⟨xs, k | ⟨_, k⟩⟩ := k <;> cases k)).trans hb
theorem off_at {a : Addr} {H : Hp} {b : Addr} {o : HO} (h : H b = some o) (n : b ≠ a) : Off a H b = some o := (away_at (decide_eq_false n)).trans h
theorem sz1 : 1 ≤ sizeLine := by decide
theorem sz10 : 10 ≤ sizeLine := by decide
theorem sz11 : 11 ≤ sizeLine := by decide
theorem sz14 : 14 ≤ sizeLine := by decide
theorem sqT_up {K : PySem.W.Frag} {H : Hp} {t : Addr} {xs : List V} (h : H t = some (.tup xs)) : SqT K H t xs := .inl (.inl h)
theorem datT {K : PySem.W.Frag} {H : Hp} {t : Addr} {xs : List V} {ds : List PyData} (h : H t = some (.tup xs)) (d : DatAll K H xs ds) : Dat K H (.ref t) (.tuple ds) := .tup (sqT_up h) d
def Dep : Nat → PyData → Prop
  | 0, _ => False
  | n + 1, d => ∀ ds, seqD d = some ds → ds.length ≤ 999 ∧ ∀ x ∈ ds, Dep n x
theorem dep_flat {n : Nat} {d : PyData} (h : seqD d = none) : Dep (n + 1) d := fun ds e => by rw [h] at e; cases e
theorem dep_seq {n : Nat} {d : PyData} {ds : List PyData} (h : seqD d = some ds) (hl : ds.length ≤ 999) (ha : ∀ x ∈ ds, Dep n x) : Dep (n + 1) d := fun ds' e => by
  rw [h] at e
  cases e
  exact ⟨hl, ha⟩
theorem dep_nil {n : Nat} : ∀ x ∈ ([] : List PyData), Dep n x := fun x hx => by cases hx
theorem dep_cons {n : Nat} {d : PyData} {ds : List PyData} (h : Dep n d) (t : ∀ x ∈ ds, Dep n x) : ∀ x ∈ d :: ds, Dep n x := fun x hx => by
  rcases List.mem_cons.mp hx with rfl | hx
  · exact h
  · exact t x hx
theorem dep_frD {n : Nat} (q : Rat) : Dep (n + 2) (frD q) := dep_seq rfl (by show 2 ≤ 999; decide) (dep_cons (dep_flat rfl) (dep_cons (dep_flat rfl) dep_nil))
theorem dep_fmD {n : Nat} (f : Rat × Rat) : Dep (n + 3) (fmD f) := dep_seq rfl (by show 2 ≤ 999; decide) (dep_cons (dep_frD _) (dep_cons (dep_frD _) dep_nil))
def oddFr : List PyData := [.none, .int 5, .str "1", .tuple [.int 1], .tuple [.int 1, .int 0], .tuple [.int 1, .int (-2)], .tuple [.bool true, .int 1], .tuple [.int 1, .bool true], .tuple [.int 1, .int 2, .int 3], .dict [], .list [], .tuple [.str "1", .int 2], .bool true, .str "12",
  .tuple [.tuple [.int 1, .int 2], .tuple [.int 1, .int 2]], .tuple [.none, .int 1], .list [.int 1, .none], .tuple [.int 1, .str "2"]]
theorem oddFr_not : ∀ d ∈ oddFr, isFracD d = false := by
  intro d hd
  unfold oddFr at hd
  simp only [List.mem_cons, List.not_mem_nil, or_false] at hd
  rcases hd with rfl | rfl | rfl | rfl | rfl | rfl | rfl | rfl | rfl | rfl | rfl | rfl | rfl | rfl | rfl | rfl | rfl | rfl <;> rfl
theorem oddFr_dep {n : Nat} : ∀ d ∈ oddFr, Dep (n + 3) d := by
  have f : ∀ {m : Nat} {d : PyData}, seqD d = none → Dep (m + 1) d := fun h => dep_flat h
  unfold oddFr
  refine dep_cons (f rfl) (dep_cons (f rfl) (dep_cons (f rfl) ?_))
  refine dep_cons (dep_seq rfl (by decide) (dep_cons (f rfl) dep_nil)) ?_
  refine dep_cons (dep_seq rfl (by decide) (dep_cons (f rfl) (dep_cons (f rfl) dep_nil))) ?_
  refine dep_cons (dep_seq rfl (by decide) (dep_cons (f rfl) (dep_cons (f rfl) dep_nil))) ?_
  refine dep_cons (dep_seq rfl (by decide) (dep_cons (f rfl) (dep_cons (f rfl) dep_nil))) ?_
  refine dep_cons (dep_seq rfl (by decide) (dep_cons (f rfl) (dep_cons (f rfl) dep_nil))) ?_
  refine dep_cons (dep_seq rfl (by decide) (dep_cons (f rfl) (dep_cons (f rfl) (dep_cons (f rfl) dep_nil)))) ?_
  refine dep_cons (f rfl) (dep_cons (dep_seq rfl (by decide) dep_nil) ?_)
  refine dep_cons (dep_seq rfl (by decide) (dep_cons (f rfl) (dep_cons (f rfl) dep_nil))) ?_
  refine dep_cons (f rfl) (dep_cons (f rfl) ?_)
  refine dep_cons (dep_seq rfl (by decide) (dep_cons (dep_seq rfl (by decide) (dep_cons (f rfl) (dep_cons (f rfl) dep_nil))) (dep_cons (dep_seq rfl (by decide) (dep_cons (f rfl) (dep_cons (f rfl) dep_nil))) dep_nil))) ?_
  refine dep_cons (dep_seq rfl (by decide) (dep_cons (f rfl) (dep_cons (f rfl) dep_nil))) ?_
  refine dep_cons (dep_seq rfl (by decide) (dep_cons (f rfl) (dep_cons (f rfl) dep_nil))) ?_
  exact dep_cons (dep_seq rfl (by decide) (dep_cons (f rfl) (dep_cons (f rfl) dep_nil))) dep_nil
section
variable {P : Program} {w : World} {K : PySem.W.Frag} {mg : Str → Option Value} {base : Heap}
def spOddFr (K : PySem.W.Frag) : Sp := fun vs H Q _ => vs = [] ∧ ∀ r H' ys, Same H H' → H r = none → H' r = some (.lst ys) → DatAll K (NewOf H H') ys oddFr → Q (.ref r) H'
theorem ok_L_odd_fractions (T : Txt K mg) : FnOk P w K mg base CX0 1 T.L_odd_fractions.f T.L_odd_fractions.fd [] (spOddFr K) := by
  refine T.L_odd_fractions.F.ok sc_L_odd_fractions (fun vs H Q E h => ?_) (fun cdv A outer s H vs Q E hr h => ?_)
  · obtain ⟨rfl, _⟩ := h
    rfl
  · obtain ⟨rfl, k⟩ := h
    refine ⟨_, (pss_cons (ps_set (i := 0) sc_L_odd_fractions.nd rfl (Or.inl rfl) (pe_lst (pa_cons pe_non (pa_cons pe_int (pa_cons pe_str (pa_cons (pe_tup (pa_cons pe_int pa_nil)) (pa_cons (pe_tup (pa_cons pe_int (pa_cons pe_int pa_nil))) (pa_cons (pe_tup (pa_cons pe_int (pa_cons (pe_un un_neg pe_int) pa_nil))) (pa_cons (pe_tup (pa_cons pe_bl (pa_cons pe_int pa_nil))) (pa_cons (pe_tup (pa_cons pe_int (pa_cons pe_bl pa_nil))) (pa_cons (pe_tup (pa_cons pe_int (pa_cons pe_int (pa_cons pe_int pa_nil)))) (pa_cons pe_dnewK (pa_cons (pe_lst pa_nil) (pa_cons (pe_tup (pa_cons pe_str (pa_cons pe_int pa_nil))) (pa_cons pe_bl (pa_cons pe_str pa_nil))))))))))))))))
      (pss_one (ps_ret (pe_op op_cat (pv 0) (pe_lst (pa_cons (pe_tup (pa_cons (pe_tup (pa_cons pe_int (pa_cons pe_int pa_nil))) (pa_cons (pe_tup (pa_cons pe_int (pa_cons pe_int pa_nil))) pa_nil))) (pa_cons (pe_tup (pa_cons pe_non (pa_cons pe_int pa_nil))) (pa_cons (pe_lst (pa_cons pe_int (pa_cons pe_non pa_nil))) (pa_cons (pe_tup (pa_cons pe_int (pa_cons pe_str pa_nil))) pa_nil))))))))), ?_⟩
    refine ⟨sz1, fun t1 n1 => ?_⟩
    have s1 : Same H (upd H t1 (.tup [V.int 1])) := same_upd n1
    have e1 : upd H t1 (.tup [V.int 1]) t1 = some (.tup [V.int 1]) := upd_same
    generalize upd H t1 (.tup [V.int 1]) = H1 at s1 e1 ⊢
    refine ⟨sz2, fun t2 n2 => ?_⟩
    have s2 : Same H1 (upd H1 t2 (.tup [V.int 1, V.int 0])) := same_upd n2
    have e2 : upd H1 t2 (.tup [V.int 1, V.int 0]) t2 = some (.tup [V.int 1, V.int 0]) := upd_same
    generalize upd H1 t2 (.tup [V.int 1, V.int 0]) = H2 at s2 e2 ⊢
    refine ⟨_, rfl, sz2, fun t3 n3 => ?_⟩
    have s3 : Same H2 (upd H2 t3 (.tup [V.int 1, V.int (-2)])) := same_upd n3
    have e3 : upd H2 t3 (.tup [V.int 1, V.int (-2)]) t3 = some (.tup [V.int 1, V.int (-2)]) := upd_same
    generalize upd H2 t3 (.tup [V.int 1, V.int (-2)]) = H3 at s3 e3 ⊢
    refine ⟨sz2, fun t4 n4 => ?_⟩
    have s4 : Same H3 (upd H3 t4 (.tup [V.bl true, V.int 1])) := same_upd n4
    have e4 : upd H3 t4 (.tup [V.bl true, V.int 1]) t4 = some (.tup [V.bl true, V.int 1]) := upd_same
    generalize upd H3 t4 (.tup [V.bl true, V.int 1]) = H4 at s4 e4 ⊢
    refine ⟨sz2, fun t5 n5 => ?_⟩
    have s5 : Same H4 (upd H4 t5 (.tup [V.int 1, V.bl true])) := same_upd n5
    have e5 : upd H4 t5 (.tup [V.int 1, V.bl true]) t5 = some (.tup [V.int 1, V.bl true]) := upd_same
    generalize upd H4 t5 (.tup [V.int 1, V.bl true]) = H5 at s5 e5 ⊢
    refine ⟨sz3, fun t6 n6 => ?_⟩
    have s6 : Same H5 (upd H5 t6 (.tup [V.int 1, V.int 2, V.int 3])) := same_upd n6
    have e6 : upd H5 t6 (.tup [V.int 1, V.int 2, V.int 3]) t6 = some (.tup [V.int 1, V.int 2, V.int 3]) := upd_same
    generalize upd H5 t6 (.tup [V.int 1, V.int 2, V.int 3]) = H6 at s6 e6 ⊢
    refine fun t7 n7 => ?_
    have s7 : Same H6 (upd H6 t7 (.dK [])) := same_upd n7
    have e7 : upd H6 t7 (.dK []) t7 = some (.dK []) := upd_same
    generalize upd H6 t7 (.dK []) = H7 at s7 e7 ⊢
    refine ⟨Nat.zero_le _, fun t8 n8 => ?_⟩
    have s8 : Same H7 (upd H7 t8 (.lst [])) := same_upd n8
    have e8 : upd H7 t8 (.lst []) t8 = some (.lst []) := upd_same
    generalize upd H7 t8 (.lst []) = H8 at s8 e8 ⊢
    refine ⟨sz2, fun t9 n9 => ?_⟩
    have s9 : Same H8 (upd H8 t9 (.tup [V.str "1", V.int 2])) := same_upd n9
    have e9 : upd H8 t9 (.tup [V.str "1", V.int 2]) t9 = some (.tup [V.str "1", V.int 2]) := upd_same
    generalize upd H8 t9 (.tup [V.str "1", V.int 2]) = H9 at s9 e9 ⊢
    refine ⟨sz14, fun t10 n10 => ?_⟩
    have s10 : Same H9 (upd H9 t10 (.lst [V.non, V.int 5, V.str "1", V.ref t1, V.ref t2, V.ref t3, V.ref t4, V.ref t5, V.ref t6, V.ref t7, V.ref t8, V.ref t9, V.bl true, V.str "12"])) := same_upd n10
    have e10 : upd H9 t10 (.lst [V.non, V.int 5, V.str "1", V.ref t1, V.ref t2, V.ref t3, V.ref t4, V.ref t5, V.ref t6, V.ref t7, V.ref t8, V.ref t9, V.bl true, V.str "12"]) t10 = some (.lst [V.non, V.int 5, V.str "1", V.ref t1, V.ref t2, V.ref t3, V.ref t4, V.ref t5, V.ref t6, V.ref t7, V.ref t8, V.ref t9, V.bl true, V.str "12"]) := upd_same
    generalize upd H9 t10 (.lst [V.non, V.int 5, V.str "1", V.ref t1, V.ref t2, V.ref t3, V.ref t4, V.ref t5, V.ref t6, V.ref t7, V.ref t8, V.ref t9, V.bl true, V.str "12"]) = H10 at s10 e10 ⊢
    refine ⟨_, rfl, sz2, fun t11 n11 => ?_⟩
    have s11 : Same H10 (upd H10 t11 (.tup [V.int 1, V.int 2])) := same_upd n11
    have e11 : upd H10 t11 (.tup [V.int 1, V.int 2]) t11 = some (.tup [V.int 1, V.int 2]) := upd_same
    generalize upd H10 t11 (.tup [V.int 1, V.int 2]) = H11 at s11 e11 ⊢
    refine ⟨sz2, fun t12 n12 => ?_⟩
    have s12 : Same H11 (upd H11 t12 (.tup [V.int 1, V.int 2])) := same_upd n12
    have e12 : upd H11 t12 (.tup [V.int 1, V.int 2]) t12 = some (.tup [V.int 1, V.int 2]) := upd_same
    generalize upd H11 t12 (.tup [V.int 1, V.int 2]) = H12 at s12 e12 ⊢
    refine ⟨sz2, fun t13 n13 => ?_⟩
    have s13 : Same H12 (upd H12 t13 (.tup [V.ref t11, V.ref t12])) := same_upd n13
    have e13 : upd H12 t13 (.tup [V.ref t11, V.ref t12]) t13 = some (.tup [V.ref t11, V.ref t12]) := upd_same
    generalize upd H12 t13 (.tup [V.ref t11, V.ref t12]) = H13 at s13 e13 ⊢
    refine ⟨sz2, fun t14 n14 => ?_⟩
    have s14 : Same H13 (upd H13 t14 (.tup [V.non, V.int 1])) := same_upd n14
    have e14 : upd H13 t14 (.tup [V.non, V.int 1]) t14 = some (.tup [V.non, V.int 1]) := upd_same
    generalize upd H13 t14 (.tup [V.non, V.int 1]) = H14 at s14 e14 ⊢
    refine ⟨sz2, fun t15 n15 => ?_⟩
    have s15 : Same H14 (upd H14 t15 (.lst [V.int 1, V.non])) := same_upd n15
    have e15 : upd H14 t15 (.lst [V.int 1, V.non]) t15 = some (.lst [V.int 1, V.non]) := upd_same
    generalize upd H14 t15 (.lst [V.int 1, V.non]) = H15 at s15 e15 ⊢
    refine ⟨sz2, fun t16 n16 => ?_⟩
    have s16 : Same H15 (upd H15 t16 (.tup [V.int 1, V.str "2"])) := same_upd n16
    have e16 : upd H15 t16 (.tup [V.int 1, V.str "2"]) t16 = some (.tup [V.int 1, V.str "2"]) := upd_same
    generalize upd H15 t16 (.tup [V.int 1, V.str "2"]) = H16 at s16 e16 ⊢
    refine ⟨sz4, fun t17 n17 => ?_⟩
    have s17 : Same H16 (upd H16 t17 (.lst [V.ref t13, V.ref t14, V.ref t15, V.ref t16])) := same_upd n17
    have e17 : upd H16 t17 (.lst [V.ref t13, V.ref t14, V.ref t15, V.ref t16]) t17 = some (.lst [V.ref t13, V.ref t14, V.ref t15, V.ref t16]) := upd_same
    generalize upd H16 t17 (.lst [V.ref t13, V.ref t14, V.ref t15, V.ref t16]) = H17 at s17 e17 ⊢
    refine ⟨t10, t17, _, _, rfl, rfl, (s11.trans (s12.trans (s13.trans (s14.trans (s15.trans (s16.trans s17)))))) _ _ e10, e17, (by show 18 ≤ sizeLine; decide), fun t18 n18 => ?_⟩
    have s18 : Same H17 (upd H17 t18 (.lst [V.non, V.int 5, V.str "1", V.ref t1, V.ref t2, V.ref t3, V.ref t4, V.ref t5, V.ref t6, V.ref t7, V.ref t8, V.ref t9, V.bl true, V.str "12", V.ref t13, V.ref t14, V.ref t15, V.ref t16])) := same_upd n18
    have e18 : upd H17 t18 (.lst [V.non, V.int 5, V.str "1", V.ref t1, V.ref t2, V.ref t3, V.ref t4, V.ref t5, V.ref t6, V.ref t7, V.ref t8, V.ref t9, V.bl true, V.str "12", V.ref t13, V.ref t14, V.ref t15, V.ref t16]) t18 = some (.lst [V.non, V.int 5, V.str "1", V.ref t1, V.ref t2, V.ref t3, V.ref t4, V.ref t5, V.ref t6, V.ref t7, V.ref t8, V.ref t9, V.bl true, V.str "12", V.ref t13, V.ref t14, V.ref t15, V.ref t16]) := upd_same
    show Q (.ref t18) (upd H17 t18 (.lst [V.non, V.int 5, V.str "1", V.ref t1, V.ref t2, V.ref t3, V.ref t4, V.ref t5, V.ref t6, V.ref t7, V.ref t8, V.ref t9, V.bl true, V.str "12", V.ref t13, V.ref t14, V.ref t15, V.ref t16]))
    generalize upd H17 t18 (.lst [V.non, V.int 5, V.str "1", V.ref t1, V.ref t2, V.ref t3, V.ref t4, V.ref t5, V.ref t6, V.ref t7, V.ref t8, V.ref t9, V.bl true, V.str "12", V.ref t13, V.ref t14, V.ref t15, V.ref t16]) = H18 at s18 e18 ⊢
    have c18 : Same (NewOf H H18) (NewOf H H18) := Same.refl _
    have f1 : ∀ b, H b = none → H b = none := fun _ h => h
    have c17 : Same (NewOf H H17) (NewOf H H18) := (newOf_same s18).trans c18
    have c16 : Same (NewOf H H16) (NewOf H H18) := (newOf_same s17).trans c17
    have c15 : Same (NewOf H H15) (NewOf H H18) := (newOf_same s16).trans c16
    have c14 : Same (NewOf H H14) (NewOf H H18) := (newOf_same s15).trans c15
    have c13 : Same (NewOf H H13) (NewOf H H18) := (newOf_same s14).trans c14
    have c12 : Same (NewOf H H12) (NewOf H H18) := (newOf_same s13).trans c13
    have c11 : Same (NewOf H H11) (NewOf H H18) := (newOf_same s12).trans c12
    have c10 : Same (NewOf H H10) (NewOf H H18) := (newOf_same s11).trans c11
    have c9 : Same (NewOf H H9) (NewOf H H18) := (newOf_same s10).trans c10
    have c8 : Same (NewOf H H8) (NewOf H H18) := (newOf_same s9).trans c9
    have c7 : Same (NewOf H H7) (NewOf H H18) := (newOf_same s8).trans c8
    have c6 : Same (NewOf H H6) (NewOf H H18) := (newOf_same s7).trans c7
    have c5 : Same (NewOf H H5) (NewOf H H18) := (newOf_same s6).trans c6
    have c4 : Same (NewOf H H4) (NewOf H H18) := (newOf_same s5).trans c5
    have c3 : Same (NewOf H H3) (NewOf H H18) := (newOf_same s4).trans c4
    have c2 : Same (NewOf H H2) (NewOf H H18) := (newOf_same s3).trans c3
    have c1 : Same (NewOf H H1) (NewOf H H18) := (newOf_same s2).trans c2
    have p1 : Same H H1 := s1
    have p2 : Same H H2 := p1.trans s2
    have p3 : Same H H3 := p2.trans s3
    have p4 : Same H H4 := p3.trans s4
    have p5 : Same H H5 := p4.trans s5
    have p6 : Same H H6 := p5.trans s6
    have p7 : Same H H7 := p6.trans s7
    have p8 : Same H H8 := p7.trans s8
    have p9 : Same H H9 := p8.trans s9
    have p10 : Same H H10 := p9.trans s10
    have p11 : Same H H11 := p10.trans s11
    have p12 : Same H H12 := p11.trans s12
    have p13 : Same H H13 := p12.trans s13
    have p14 : Same H H14 := p13.trans s14
    have p15 : Same H H15 := p14.trans s15
    have p16 : Same H H16 := p15.trans s16
    have p17 : Same H H17 := p16.trans s17
    have p18 : Same H H18 := p17.trans s18
    have a1 := c1 _ _ ((away_at (old_f.mpr n1)).trans e1)
    have a2 := c2 _ _ ((away_at (old_f.mpr (p1.free n2))).trans e2)
    have a3 := c3 _ _ ((away_at (old_f.mpr (p2.free n3))).trans e3)
    have a4 := c4 _ _ ((away_at (old_f.mpr (p3.free n4))).trans e4)
    have a5 := c5 _ _ ((away_at (old_f.mpr (p4.free n5))).trans e5)
    have a6 := c6 _ _ ((away_at (old_f.mpr (p5.free n6))).trans e6)
    have a7 := c7 _ _ ((away_at (old_f.mpr (p6.free n7))).trans e7)
    have a8 := c8 _ _ ((away_at (old_f.mpr (p7.free n8))).trans e8)
    have a9 := c9 _ _ ((away_at (old_f.mpr (p8.free n9))).trans e9)
    have a10 := c10 _ _ ((away_at (old_f.mpr (p9.free n10))).trans e10)
    have a11 := c11 _ _ ((away_at (old_f.mpr (p10.free n11))).trans e11)
    have a12 := c12 _ _ ((away_at (old_f.mpr (p11.free n12))).trans e12)
    have a13 := c13 _ _ ((away_at (old_f.mpr (p12.free n13))).trans e13)
    have a14 := c14 _ _ ((away_at (old_f.mpr (p13.free n14))).trans e14)
    have a15 := c15 _ _ ((away_at (old_f.mpr (p14.free n15))).trans e15)
    have a16 := c16 _ _ ((away_at (old_f.mpr (p15.free n16))).trans e16)
    have a17 := c17 _ _ ((away_at (old_f.mpr (p16.free n17))).trans e17)
    have a18 := c18 _ _ ((away_at (old_f.mpr (p17.free n18))).trans e18)
    refine k t18 H18 _ p18 (p17.free n18) e18 ?_
    exact .cons .non (.cons (.int _) (.cons (.str _) (.cons (datT a1 (.cons (.int _) .nil)) (.cons (datT a2 (.cons (.int _) (.cons (.int _) .nil))) (.cons (datT a3 (.cons (.int _) (.cons (.int _) .nil))) (.cons (datT a4 (.cons (.bl _) (.cons (.int _) .nil))) (.cons (datT a5 (.cons (.int _) (.cons (.bl _) .nil))) (.cons (datT a6 (.cons (.int _) (.cons (.int _) (.cons (.int _) .nil)))) (.cons (.dct a7) (.cons (.lst a8 .nil) (.cons (datT a9 (.cons (.str _) (.cons (.int _) .nil))) (.cons (.bl _) (.cons (.str _) (.cons (datT a13 (.cons (datT a11 (.cons (.int _) (.cons (.int _) .nil))) (.cons (datT a12 (.cons (.int _) (.cons (.int _) .nil))) .nil))) (.cons (datT a14 (.cons .non (.cons (.int _) .nil))) (.cons (.lst a15 (.cons (.int _) (.cons .non .nil))) (.cons (datT a16 (.cons (.int _) (.cons (.str _) .nil))) .nil)))))))))))))))))
/-- the odd forms -/
theorem off_ne {a : Addr} {H : Hp} (h : DrAt H a) {r : Addr} (n : H r = none) : r ≠ a := h.ne n
def spOddFm (K : PySem.W.Frag) : Sp := fun vs H Q _ => ∃ (a : Addr) (v : V) (f : Rat × Rat), vs = [.ref a, v] ∧ DrAt H a ∧ FmV K H v f ∧
  ∀ r H' ys ds, Dw a H H' → H r = none → H' r = some (.lst ys) → DatAll K (Off a H') ys ds → ys.length ≤ 20 → (∀ d ∈ ds, isFormD d = false) → (∀ d ∈ ds, Dep 7 d) → Q (.ref r) H'
theorem isForm_no1 (x y : PyData) (h : isFracD x = false) : isFormD (.tuple [x, y]) = false := by
  show (isFracD x && isFracD y) = false
  rw [h]
  rfl
theorem isForm_no2 (x y : PyData) (h : isFracD y = false) : isFormD (.list [x, y]) = false := by
  show (isFracD x && isFracD y) = false
  rw [h, Bool.and_false]
theorem ok_L_odd_forms (T : Txt K mg) : FnOk P w K mg base CX0 3 T.L_odd_forms.f T.L_odd_forms.fd ["_law_draws", "_law_one"] (spOddFm K) := by
  refine T.L_odd_forms.F.ok sc_L_odd_forms (fun vs H Q E h => ?_) (fun cdv A outer s H vs Q E hr h => ?_)
  · obtain ⟨a, v, f, rfl, _⟩ := h
    rfl
  · obtain ⟨a, _, f, rfl, hD, ⟨p, _, _, rfl, hp, ⟨pa, rfl, hv1⟩, ⟨pb, rfl, hv2⟩⟩, k⟩ := h
    refine ⟨_, (pss_cons (ps_set (i := 2) sc_L_odd_forms.nd rfl (Or.inl rfl) (pe_lst (pa_cons pe_non (pa_cons pe_int (pa_cons pe_str (pa_cons (pe_lst pa_nil) (pa_cons pe_dnewK (pa_cons pe_bl (pa_cons (pe_ix ix_tup (pv 1) pe_int (fun _ _ => rfl)) (pa_cons (pe_tup (pa_cons (pe_ix ix_tup (pv 1) pe_int (fun _ _ => rfl)) pa_nil)) (pa_cons (pe_tup (pa_cons (pe_ix ix_tup (pv 1) pe_int (fun _ _ => rfl)) (pa_cons (pe_ix ix_tup (pv 1) pe_int (fun _ _ => rfl)) (pa_cons (pe_ix ix_tup (pv 1) pe_int (fun _ _ => rfl)) pa_nil)))) (pa_cons (pe_lst (pa_cons (pv 1) pa_nil)) (pa_cons (pe_op op_catT (pe_ix ix_tup (pv 1) pe_int (fun _ _ => rfl)) (pe_ix ix_tup (pv 1) pe_int (fun _ _ => rfl))) pa_nil)))))))))))))
      (pss_cons (ps_set (i := 3) sc_L_odd_forms.nd rfl (Or.inl rfl) (pe_call (ok_L_pick T) (hr.mono (by decide)) (by rfl) T.L_pick.g T.L_pick.F.kp T.L_pick.b .nil pass0 (pa_cons (pv 0) (pa_cons (pe_call0 (ok_L_odd_fractions T) (hr.mono (by decide)) (by rfl) T.L_odd_fractions.g T.L_odd_fractions.F.kp T.L_odd_fractions.b .nil pass0) pa_nil))))
      (pss_one (ps_ret (pe_op op_cat (pv 2) (pe_lst (pa_cons (pe_tup (pa_cons (pv 3) (pa_cons (pe_ix ix_tup (pv 1) pe_int (fun _ _ => rfl)) pa_nil))) (pa_cons (pe_lst (pa_cons (pe_ix ix_tup (pv 1) pe_int (fun _ _ => rfl)) (pa_cons (pv 3) pa_nil))) pa_nil)))))))), ?_⟩
    refine ⟨Nat.zero_le _, fun t1 n1 => ?_⟩
    have s1 : Same H (upd H t1 (.lst [])) := same_upd n1
    have e1 : upd H t1 (.lst []) t1 = some (.lst []) := upd_same
    generalize upd H t1 (.lst []) = H1 at s1 e1 ⊢
    have q1 : Same H H1 := s1
    refine fun t2 n2 => ?_
    have s2 : Same H1 (upd H1 t2 (.dK [])) := same_upd n2
    have e2 : upd H1 t2 (.dK []) t2 = some (.dK []) := upd_same
    generalize upd H1 t2 (.dK []) = H2 at s2 e2 ⊢
    have q2 : Same H H2 := q1.trans s2
    refine ⟨_, rfl, _, _, _, _, rfl, rfl, q2.sqT hp, rfl, _, rfl, _, _, _, _, rfl, rfl, q2.sqT hp, rfl, sz1, fun t3 n3 => ?_⟩
    have s3 : Same H2 (upd H2 t3 (.tup [V.ref pa])) := same_upd n3
    have e3 : upd H2 t3 (.tup [V.ref pa]) t3 = some (.tup [V.ref pa]) := upd_same
    generalize upd H2 t3 (.tup [V.ref pa]) = H3 at s3 e3 ⊢
    have q3 : Same H H3 := q2.trans s3
    refine ⟨_, rfl, _, _, _, _, rfl, rfl, q3.sqT hp, rfl, _, rfl, _, _, _, _, rfl, rfl, q3.sqT hp, rfl, _, rfl, _, _, _, _, rfl, rfl, q3.sqT hp, rfl, sz3, fun t4 n4 => ?_⟩
    have s4 : Same H3 (upd H3 t4 (.tup [V.ref pa, V.ref pb, V.ref pb])) := same_upd n4
    have e4 : upd H3 t4 (.tup [V.ref pa, V.ref pb, V.ref pb]) t4 = some (.tup [V.ref pa, V.ref pb, V.ref pb]) := upd_same
    generalize upd H3 t4 (.tup [V.ref pa, V.ref pb, V.ref pb]) = H4 at s4 e4 ⊢
    have q4 : Same H H4 := q3.trans s4
    refine ⟨_, rfl, sz1, fun t5 n5 => ?_⟩
    have s5 : Same H4 (upd H4 t5 (.lst [V.ref p])) := same_upd n5
    have e5 : upd H4 t5 (.lst [V.ref p]) t5 = some (.lst [V.ref p]) := upd_same
    generalize upd H4 t5 (.lst [V.ref p]) = H5 at s5 e5 ⊢
    have q5 : Same H H5 := q4.trans s5
    refine ⟨_, rfl, _, _, _, _, rfl, rfl, q5.sqT hp, rfl, _, rfl, _, _, _, _, rfl, rfl, q5.sqT hp, rfl, _, _, _, _, rfl, rfl, q5.sqT hv1, q5.sqT hv2, (fun z => List.cons_ne_nil _ _ z), (by show 4 ≤ sizeLine; decide), (fun z => absurd z (List.cons_ne_nil _ _)), fun _ t6 n6 => ?_⟩
    have s6 : Same H5 (upd H5 t6 (.tup [V.int f.1.num, V.int (f.1.den : Nat), V.int f.2.num, V.int (f.2.den : Nat)])) := same_upd n6
    have e6 : upd H5 t6 (.tup [V.int f.1.num, V.int (f.1.den : Nat), V.int f.2.num, V.int (f.2.den : Nat)]) t6 = some (.tup [V.int f.1.num, V.int (f.1.den : Nat), V.int f.2.num, V.int (f.2.den : Nat)]) := upd_same
    have ef : frV f.1 ++ frV f.2 = [V.int f.1.num, V.int (f.1.den : Nat), V.int f.2.num, V.int (f.2.den : Nat)] := rfl
    rw [ef]
    generalize upd H5 t6 (.tup [V.int f.1.num, V.int (f.1.den : Nat), V.int f.2.num, V.int (f.2.den : Nat)]) = H6 at s6 e6 ⊢
    have q6 : Same H H6 := q5.trans s6
    refine ⟨sz11, fun t7 n7 => ?_⟩
    have s7 : Same H6 (upd H6 t7 (.lst [V.non, V.int 5, V.str "ab", V.ref t1, V.ref t2, V.bl true, V.ref pa, V.ref t3, V.ref t4, V.ref t5, V.ref t6])) := same_upd n7
    have e7 : upd H6 t7 (.lst [V.non, V.int 5, V.str "ab", V.ref t1, V.ref t2, V.bl true, V.ref pa, V.ref t3, V.ref t4, V.ref t5, V.ref t6]) t7 = some (.lst [V.non, V.int 5, V.str "ab", V.ref t1, V.ref t2, V.bl true, V.ref pa, V.ref t3, V.ref t4, V.ref t5, V.ref t6]) := upd_same
    generalize upd H6 t7 (.lst [V.non, V.int 5, V.str "ab", V.ref t1, V.ref t2, V.bl true, V.ref pa, V.ref t3, V.ref t4, V.ref t5, V.ref t6]) = H7 at s7 e7 ⊢
    have q7 : Same H H7 := q6.trans s7
    have D7 := hD.same q7
    refine ⟨_, rfl, rfl, fun r8 H8 ys8 s8 nr8 hr8 hd8 => ?_⟩
    have nra : r8 ≠ a := D7.ne nr8
    have hl8 := hd8.length
    have D8 := D7.same s8
    refine ⟨a, r8, ys8, rfl, D8, SqL.of hr8, nra, (fun z => by rw [z] at hl8; cases hl8), (by rw [hl8]; decide), fun v9 H9 hv9 w9 => ?_⟩
    have hd8 : DatAll K (Off a H8) ys8 oddFr := hd8.k (away_same fun b o e1 e2 => ⟨decide_eq_false (D7.ne (old_f.mp e1)), e2⟩)
    obtain ⟨i9, hi9⟩ := List.mem_iff_getElem?.mp hv9
    obtain ⟨d9, hdi9, hd9⟩ := DatAll.get hd8 hi9
    have hd9 := hd9.k (off_dw w9)
    have hdep9 : Dep 6 d9 := oddFr_dep d9 (List.mem_of_getElem? hdi9)
    have hno := oddFr_not d9 (List.mem_of_getElem? hdi9)
    have D9 := w9.dr
    have w89 : Dw a H7 H9 := (Dw.of D7 s8).trans w9
    have u9 := (Tups.of q7).trans (w89.tups D7)
    refine ⟨_, rfl, _, rfl, _, rfl, _, _, _, _, rfl, rfl, u9.sqT hp, rfl, sz2, fun t10 n10 => ?_⟩
    have s10 : Same H9 (upd H9 t10 (.tup [v9, V.ref pb])) := same_upd n10
    have e10 : upd H9 t10 (.tup [v9, V.ref pb]) t10 = some (.tup [v9, V.ref pb]) := upd_same
    generalize upd H9 t10 (.tup [v9, V.ref pb]) = H10 at s10 e10 ⊢
    refine ⟨_, rfl, _, _, _, _, rfl, rfl, s10.sqT (u9.sqT hp), rfl, _, rfl, sz2, fun t11 n11 => ?_⟩
    have s11 : Same H10 (upd H10 t11 (.lst [V.ref pa, v9])) := same_upd n11
    have e11 : upd H10 t11 (.lst [V.ref pa, v9]) t11 = some (.lst [V.ref pa, v9]) := upd_same
    generalize upd H10 t11 (.lst [V.ref pa, v9]) = H11 at s11 e11 ⊢
    refine ⟨sz2, fun t12 n12 => ?_⟩
    have s12 : Same H11 (upd H11 t12 (.lst [V.ref t10, V.ref t11])) := same_upd n12
    have e12 : upd H11 t12 (.lst [V.ref t10, V.ref t11]) t12 = some (.lst [V.ref t10, V.ref t11]) := upd_same
    generalize upd H11 t12 (.lst [V.ref t10, V.ref t11]) = H12 at s12 e12 ⊢
    refine ⟨t7, t12, _, _, rfl, rfl, (s10.trans (s11.trans s12)) _ _ (w89.keep _ _ (hD.ne (q6.free n7)) e7), e12, (by show 13 ≤ sizeLine; decide), fun t13 n13 => ?_⟩
    have s13 : Same H12 (upd H12 t13 (.lst [V.non, V.int 5, V.str "ab", V.ref t1, V.ref t2, V.bl true, V.ref pa, V.ref t3, V.ref t4, V.ref t5, V.ref t6, V.ref t10, V.ref t11])) := same_upd n13
    have e13 : upd H12 t13 (.lst [V.non, V.int 5, V.str "ab", V.ref t1, V.ref t2, V.bl true, V.ref pa, V.ref t3, V.ref t4, V.ref t5, V.ref t6, V.ref t10, V.ref t11]) t13 = some (.lst [V.non, V.int 5, V.str "ab", V.ref t1, V.ref t2, V.bl true, V.ref pa, V.ref t3, V.ref t4, V.ref t5, V.ref t6, V.ref t10, V.ref t11]) := upd_same
    show Q (.ref t13) (upd H12 t13 (.lst [V.non, V.int 5, V.str "ab", V.ref t1, V.ref t2, V.bl true, V.ref pa, V.ref t3, V.ref t4, V.ref t5, V.ref t6, V.ref t10, V.ref t11]))
    generalize upd H12 t13 (.lst [V.non, V.int 5, V.str "ab", V.ref t1, V.ref t2, V.bl true, V.ref pa, V.ref t3, V.ref t4, V.ref t5, V.ref t6, V.ref t10, V.ref t11]) = H13 at s13 e13 ⊢
    have c13 : Same (Off a H13) (Off a H13) := Same.refl _
    have c12 := (off_same (a := a) s13).trans c13
    have c11 := (off_same (a := a) s12).trans c12
    have c10 := (off_same (a := a) s11).trans c11
    have c9 := (off_same (a := a) s10).trans c10
    have c7 := (off_dw w89).trans c9
    have c6 := (off_same (a := a) s7).trans c7
    have c5 := (off_same (a := a) s6).trans c6
    have c4 := (off_same (a := a) s5).trans c5
    have c3 := (off_same (a := a) s4).trans c4
    have c2 := (off_same (a := a) s3).trans c3
    have c1 := (off_same (a := a) s2).trans c2
    have c0 := (off_same (a := a) s1).trans c1
    have a1 := c1 _ _ (off_at e1 (hD.ne n1))
    have a2 := c2 _ _ (off_at e2 (hD.ne (q1.free n2)))
    have a3 := c3 _ _ (off_at e3 (hD.ne (q2.free n3)))
    have a4 := c4 _ _ (off_at e4 (hD.ne (q3.free n4)))
    have a5 := c5 _ _ (off_at e5 (hD.ne (q4.free n5)))
    have a6 := c6 _ _ (off_at e6 (hD.ne (q5.free n6)))
    have a7 := c7 _ _ (off_at e7 (hD.ne (q6.free n7)))
    have a10 := c10 _ _ (off_at e10 (D9.ne n10))
    have a11 := c11 _ _ (off_at e11 (D9.ne (s10.free n11)))
    have hfm : Dat K (Off a H13) (.ref p) (fmD f) := fm_dat (FmV.keep ((off_tups hD).trans (.of c0)) ⟨p, _, _, rfl, hp, ⟨pa, rfl, hv1⟩, ⟨pb, rfl, hv2⟩⟩)
    have h1 : Dat K (Off a H13) (.ref pa) (frD f.1) := fr_dat (Fr.keep ((off_tups hD).trans (.of c0)) ⟨pa, rfl, hv1⟩)
    have h2 : Dat K (Off a H13) (.ref pb) (frD f.2) := fr_dat (Fr.keep ((off_tups hD).trans (.of c0)) ⟨pb, rfl, hv2⟩)
    have h9 := hd9.k c9
    have w13 : Dw a H H13 := (Dw.of hD q7).trans (w89.trans (Dw.of D9 (s10.trans (s11.trans (s12.trans s13)))))
    have fr13 : H t13 = none := q7.free (w89.free ((s10.trans (s11.trans s12)).free n13))
    refine k t13 H13 _ [.none, .int 5, .str "ab", .list [], .dict [], .bool true, frD f.1, .tuple [frD f.1], .tuple [frD f.1, frD f.2, frD f.2], .list [fmD f], .tuple [.int f.1.num, .int (f.1.den : Nat), .int f.2.num, .int (f.2.den : Nat)], .tuple [d9, frD f.2], .list [frD f.1, d9]] w13 fr13 e13 ?_ (by show 13 ≤ 20; decide) ?_ ?_
    · exact .cons .non (.cons (.int _) (.cons (.str _) (.cons (.lst a1 .nil) (.cons (.dct a2) (.cons (.bl _) (.cons h1 (.cons (datT a3 (.cons h1 .nil)) (.cons (datT a4 (.cons h1 (.cons h2 (.cons h2 .nil)))) (.cons (.lst a5 (.cons hfm .nil)) (.cons (datT a6 (.cons (.int _) (.cons (.int _) (.cons (.int _) (.cons (.int _) .nil))))) (.cons (datT a10 (.cons h9 (.cons h2 .nil))) (.cons (.lst a11 (.cons h1 (.cons h9 .nil))) .nil))))))))))))
    · intro d hd
      simp only [List.mem_cons, List.not_mem_nil, or_false] at hd
      rcases hd with rfl | rfl | rfl | rfl | rfl | rfl | rfl | rfl | rfl | rfl | rfl | rfl | rfl
      all_goals first | rfl | exact isForm_no1 _ _ hno | exact isForm_no2 _ _ hno
    · refine dep_cons (dep_flat rfl) (dep_cons (dep_flat rfl) (dep_cons (dep_flat rfl) ?_))
      refine dep_cons (dep_seq rfl (Nat.zero_le _) dep_nil) (dep_cons (dep_flat rfl) (dep_cons (dep_flat rfl) (dep_cons (dep_frD _) ?_)))
      refine dep_cons (dep_seq rfl (by show 1 ≤ 999; decide) (dep_cons (dep_frD _) dep_nil)) ?_
      refine dep_cons (dep_seq rfl (by show 3 ≤ 999; decide) (dep_cons (dep_frD _) (dep_cons (dep_frD _) (dep_cons (dep_frD _) dep_nil)))) ?_
      refine dep_cons (dep_seq rfl (by show 1 ≤ 999; decide) (dep_cons (dep_fmD _) dep_nil)) ?_
      refine dep_cons (dep_seq rfl (by show 4 ≤ 999; decide) (dep_cons (dep_flat rfl) (dep_cons (dep_flat rfl) (dep_cons (dep_flat rfl) (dep_cons (dep_flat rfl) dep_nil))))) ?_
      refine dep_cons (dep_seq rfl (by show 2 ≤ 999; decide) (dep_cons hdep9 (dep_cons (dep_frD _) dep_nil))) ?_
      exact dep_cons (dep_seq rfl (by show 2 ≤ 999; decide) (dep_cons (dep_frD _) (dep_cons hdep9 dep_nil))) dep_nil
end
end KX
set_option Elab.async false
set_option linter.all false
set_option maxRecDepth 100000
set_option maxHeartbeats 4000000
set_option exponentiation.threshold 20000
namespace KX
open PySem PySem.Spec PyProof.Rows L2 RZ
/-! ### _law_same -/
theorem walk_zipT {K : PySem.W.Frag} {a b : Addr} {xs ys : List V} {n : Nat} (hn : n = min xs.length ys.length) : Walk (ItzT K a b) n (fun H => SqT K H a xs ∧ SqT K H b ys) (YPair (fun i => xs[i]?) (fun i => ys[i]?)) := by
  subst hn
  refine ⟨fun i _ hi q => ?_, fun _ q => ⟨xs, ys, q.1, q.2, by omega⟩, fun i H v H' _ q y => ?_⟩
  · have h1 : i < xs.length := by omega
    have h2 : i < ys.length := by omega
    exact ⟨xs, ys, xs[i], ys[i], q.1, q.2, by simp [h1], by simp [h2]⟩
  · obtain ⟨T, x, z, h1, h2, h3, h4, h5⟩ := y
    exact ⟨T, x, z, h1, h2, h3, h4 xs q.1, h5 ys q.2⟩
def isLstD : PyData → Bool
  | .list _ => true
  | _ => false
def isTupD : PyData → Bool
  | .tuple _ => true
  | _ => false
section
variable {K : PySem.W.Frag}
theorem kit_l (d : PyData) : PySem.W.kitOne K (.type (tyName d)) (.type "list") = some (isLstD d) := by
  cases d with
  | none => exact kit_ty (a := "NoneType") (b := "list") (r := false) (by decide +kernel)
  | bool b => exact kit_ty (a := "bool") (b := "list") (r := false) (by decide +kernel)
  | int i => exact kit_ty (a := "int") (b := "list") (r := false) (by decide +kernel)
  | str x => exact kit_ty (a := "str") (b := "list") (r := false) (by decide +kernel)
  | list xs => exact kit_ty (a := "list") (b := "list") (r := true) (by decide +kernel)
  | tuple xs => exact kit_ty (a := "tuple") (b := "list") (r := false) (by decide +kernel)
  | dict kvs => exact kit_ty (a := "dict") (b := "list") (r := false) (by decide +kernel)
theorem kit_t (d : PyData) : PySem.W.kitOne K (.type (tyName d)) (.type "tuple") = some (isTupD d) := by
  cases d with
  | none => exact kit_ty (a := "NoneType") (b := "tuple") (r := false) (by decide +kernel)
  | bool b => exact kit_ty (a := "bool") (b := "tuple") (r := false) (by decide +kernel)
  | int i => exact kit_ty (a := "int") (b := "tuple") (r := false) (by decide +kernel)
  | str x => exact kit_ty (a := "str") (b := "tuple") (r := false) (by decide +kernel)
  | list xs => exact kit_ty (a := "list") (b := "tuple") (r := false) (by decide +kernel)
  | tuple xs => exact kit_ty (a := "tuple") (b := "tuple") (r := true) (by decide +kernel)
  | dict kvs => exact kit_ty (a := "dict") (b := "tuple") (r := false) (by decide +kernel)
theorem kit_bi (d : PyData) : PySem.W.kitAny K (.type (tyName d)) [.type "bool", .type "int"] = some (intLike d) := by
  cases d with
  | none => exact kit_two (a := "NoneType") (b := "bool") (c := "int") (x := false) (y := false) (by decide +kernel) (by decide +kernel)
  | bool b => exact kit_two (a := "bool") (b := "bool") (c := "int") (x := true) (y := true) (by decide +kernel) (by decide +kernel)
  | int i => exact kit_two (a := "int") (b := "bool") (c := "int") (x := false) (y := true) (by decide +kernel) (by decide +kernel)
  | str x => exact kit_two (a := "str") (b := "bool") (c := "int") (x := false) (y := false) (by decide +kernel) (by decide +kernel)
  | list xs => exact kit_two (a := "list") (b := "bool") (c := "int") (x := false) (y := false) (by decide +kernel) (by decide +kernel)
  | tuple xs => exact kit_two (a := "tuple") (b := "bool") (c := "int") (x := false) (y := false) (by decide +kernel) (by decide +kernel)
  | dict kvs => exact kit_two (a := "dict") (b := "bool") (c := "int") (x := false) (y := false) (by decide +kernel) (by decide +kernel)
theorem kit_4 (d : PyData) : PySem.W.kitAny K (.type (tyName d)) [.type "bool", .type "int", .type "list", .type "tuple"] = some (intLike d || isListD d) := by
  have e1 : PySem.W.kitOne K (.type (tyName d)) (.type "bool") = some (isBoolD d) := kit_bool d
  have e2 := kit_int (K := K) d
  have e3 := kit_list (K := K) d
  refine kitAny_cons (b := isBoolD d) e1 (fun e => ?_) (fun e => ?_)
  · refine kitAny_cons (b := intLike d) e2 (fun e => ?_) (fun e => ?_)
    · rw [e, Bool.false_or]
      exact e3
    · rw [e]
      rfl
  · have : intLike d = true := by cases d <;> first | rfl | cases e
    rw [this]
    rfl
end
section
variable {P : Program} {w : World} {K : PySem.W.Frag} {mg : Str → Option Value} {base : Heap}
def spSame (K : PySem.W.Frag) (n : Nat) : Sp := fun vs H Q _ => ∃ (v1 v2 : V) (d : PyData), vs = [v1, v2] ∧ Dat K H v1 d ∧ Dat K H v2 d ∧ Dep n d ∧ ∀ H', Same H H' → Q (.bl true) H'
theorem ok_same0 (T : Txt K mg) : FnOk P w K mg base CX0 1 T.L_same.f T.L_same.fd ["_law_found", "_law_due"] (spSame K 0) := by
  refine T.L_same.F.ok sc_L_same (fun vs H Q E h => ?_) (fun cdv A outer s H vs Q E hr h => ?_)
  · obtain ⟨a, v, d, _, _, _, z, _⟩ := h
    exact z.elim
  · obtain ⟨a, v, d, _, _, _, z, _⟩ := h
    exact z.elim
theorem ok_sameS (T : Txt K mg) {n : Nat} (IH : ∀ {base : Heap}, FnOk P w K mg base CX0 (n + 1) T.L_same.f T.L_same.fd ["_law_found", "_law_due"] (spSame K n)) : FnOk P w K mg base CX0 (n + 2) T.L_same.f T.L_same.fd ["_law_found", "_law_due"] (spSame K (n + 1)) := by
  refine T.L_same.F.ok sc_L_same (fun vs H Q E h => ?_) (fun cdv A outer s H vs Q E hr h => ?_)
  · obtain ⟨v1, v2, d, rfl, _⟩ := h
    rfl
  · obtain ⟨v1, v2, d, rfl, h1, h2, hdep, k⟩ := h
    by_cases hdc : ∃ ks, d = .dict ks
    · obtain ⟨ks, rfl⟩ := hdc
      refine ⟨_, (pss_cons (ps_if (pt_val (pe_callB call_isiT (by rfl) T.m_isinstance (by decide +kernel) (pa_cons (pv 1) (pa_cons (pe_tup (pa_cons (pe_bltn (v := .ty "list") (by rfl) T.m_list (by decide +kernel) rfl) (pa_cons (pe_bltn (v := .ty "tuple") (by rfl) T.m_tuple (by decide +kernel) rfl) pa_nil))) pa_nil)))) (pss_cons (ps_if (PW.pt (pw_or (pt_cmpR op_ne (pe_callB call_isi (by rfl) T.m_isinstance (by decide +kernel) (pa_cons (pv 0) (pa_cons (pe_bltn (v := .ty "list") (by rfl) T.m_list (by decide +kernel) rfl) pa_nil))) (pe_callB call_isi (by rfl) T.m_isinstance (by decide +kernel) (pa_cons (pv 1) (pa_cons (pe_bltn (v := .ty "list") (by rfl) T.m_list (by decide +kernel) rfl) pa_nil))) (nomark _)) (pw_or1 (pt_cmpR op_ne (pe_callB call_isi (by rfl) T.m_isinstance (by decide +kernel) (pa_cons (pv 0) (pa_cons (pe_bltn (v := .ty "tuple") (by rfl) T.m_tuple (by decide +kernel) rfl) pa_nil))) (pe_callB call_isi (by rfl) T.m_isinstance (by decide +kernel) (pa_cons (pv 1) (pa_cons (pe_bltn (v := .ty "tuple") (by rfl) T.m_tuple (by decide +kernel) rfl) pa_nil))) (nomark _))))) (pss_one (ps_ret pe_bl)) pss_nil)
      (pss_one (ps_ret (pe_and (pe_cmpR op_eq (pe_callB call_len_seq (by rfl) T.m_len PySem.boot_len (pa_cons (pv 0) pa_nil)) (pe_callB call_len_seq (by rfl) T.m_len PySem.boot_len (pa_cons (pv 1) pa_nil)) (nomark _)) (pe_one (pe_callB (cr_all rfl) (by rfl) T.m_all (by decide +kernel) (pa_cons (pe_lc (own := [("_law_left", 2), ("_law_right", 3)]) (g := gTup K 2 (gCons (gName 2) (gCons (gName 3) gNil))) (tt := tYes) rfl sc_L_same.nd (pi_zipA (by rfl) T.m_zip (pa_cons (pv 0) (pa_cons (pv 1) pa_nil))) (blkOk_by (own := [("_law_left", 2), ("_law_right", 3)]) (N := ["_law_found", "_law_due", "_law_left", "_law_right"]) (sc := defScope s_L_same) (by decide +kernel)) (fun _ _ _ _ _ => pg_tup rfl (pgs_cons (pg_name (i := 2) sc_L_same.nd rfl (Or.inl rfl)) (pgs_cons (pg_name (i := 3) sc_L_same.nd rfl (Or.inl rfl)) pgs_nil))) (fun _ _ _ _ _ => pts_nil) (fun _ _ _ _ _ => (pe_call IH (hr.mono (by omega)) (by rfl) T.L_same.g T.L_same.F.kp T.L_same.b .nil pass0 (pa_cons (pv 2) (pa_cons (pv 3) pa_nil))))) pa_nil))))))) pss_nil)
      (pss_cons (ps_if (pt_val (pe_callB call_isiT (by rfl) T.m_isinstance (by decide +kernel) (pa_cons (pv 1) (pa_cons (pe_tup (pa_cons (pe_bltn (v := .ty "bool") (by rfl) T.m_bool (by decide +kernel) rfl) (pa_cons (pe_bltn (v := .ty "int") (by rfl) T.m_int (by decide +kernel) rfl) pa_nil))) pa_nil)))) (pss_one (ps_ret (pe_and (pe_callB call_isi (by rfl) T.m_isinstance (by decide +kernel) (pa_cons (pv 0) (pa_cons (pe_bltn (v := .ty "int") (by rfl) T.m_int (by decide +kernel) rfl) pa_nil))) (pe_and (pe_cmpR op_eq (pe_callB call_isi (by rfl) T.m_isinstance (by decide +kernel) (pa_cons (pv 0) (pa_cons (pe_bltn (v := .ty "bool") (by rfl) T.m_bool (by decide +kernel) rfl) pa_nil))) (pe_callB call_isi (by rfl) T.m_isinstance (by decide +kernel) (pa_cons (pv 1) (pa_cons (pe_bltn (v := .ty "bool") (by rfl) T.m_bool (by decide +kernel) rfl) pa_nil))) (nomark _)) (pe_one (pe_cmpR (op_eqV hr.units) (pv 0) (pv 1) (nomark _))))))) pss_nil)
      (pss_one (ps_ret (pe_and (pe_not (pe_callB call_isiT (by rfl) T.m_isinstance (by decide +kernel) (pa_cons (pv 0) (pa_cons (pe_tup (pa_cons (pe_bltn (v := .ty "bool") (by rfl) T.m_bool (by decide +kernel) rfl) (pa_cons (pe_bltn (v := .ty "int") (by rfl) T.m_int (by decide +kernel) rfl) (pa_cons (pe_bltn (v := .ty "list") (by rfl) T.m_list (by decide +kernel) rfl) (pa_cons (pe_bltn (v := .ty "tuple") (by rfl) T.m_tuple (by decide +kernel) rfl) pa_nil))))) pa_nil)))) (pe_one (pe_cmpR (op_eqV hr.units) (pv 0) (pv 1) (nomark _)))))))), ?_⟩
      refine ⟨_, rfl, sz2, fun tp ntp => ⟨_, tp, _, _, _, _, rfl, upd_same, .cons (.ty _) (.cons (.ty _) .nil), dat_ty (h2.k (same_upd ntp)), kit_list _, _, rfl, iteF ?_⟩⟩
      have q1 := same_upd (o := .tup [V.ty "list", V.ty "tuple"]) ntp
      refine ⟨_, rfl, sz2, fun t2 nt2 => ⟨_, t2, _, _, _, _, rfl, upd_same, .cons (.ty _) (.cons (.ty _) .nil), dat_ty ((h2.k q1).k (same_upd nt2)), kit_bi _, _, rfl, iteF ?_⟩⟩
      have q2 := same_upd (o := .tup [V.ty "bool", V.ty "int"]) nt2
      refine ⟨_, rfl, sz4, fun t3 nt3 => ⟨_, t3, _, _, _, _, rfl, upd_same, .cons (.ty _) (.cons (.ty _) (.cons (.ty _) (.cons (.ty _) .nil))), dat_ty (((h1.k q1).k q2).k (same_upd nt3)), kit_4 _, _, rfl, _, rfl, ?_⟩⟩
      have q3 := same_upd (o := .tup [V.ty "bool", V.ty "int", V.ty "list", V.ty "tuple"]) nt3
      have q := q1.trans (q2.trans q3)
      have g1 := h1.k q
      have g2 := h2.k q
      cases g1 with
      | dct g1 =>
        cases g2 with
        | dct g2 =>
          exact iteT ⟨_, rfl, _, rfl, 1, by decide, .inr ⟨_, _, [], [], rfl, rfl, g1, g2, rfl, fun p hp => by cases hp⟩, k _ q⟩
    · refine ⟨_, (pss_cons (ps_if (pt_val (pe_callB call_isiT (by rfl) T.m_isinstance (by decide +kernel) (pa_cons (pv 1) (pa_cons (pe_tup (pa_cons (pe_bltn (v := .ty "list") (by rfl) T.m_list (by decide +kernel) rfl) (pa_cons (pe_bltn (v := .ty "tuple") (by rfl) T.m_tuple (by decide +kernel) rfl) pa_nil))) pa_nil)))) (pss_cons (ps_if (PW.pt (pw_or (pt_cmpR op_ne (pe_callB call_isi (by rfl) T.m_isinstance (by decide +kernel) (pa_cons (pv 0) (pa_cons (pe_bltn (v := .ty "list") (by rfl) T.m_list (by decide +kernel) rfl) pa_nil))) (pe_callB call_isi (by rfl) T.m_isinstance (by decide +kernel) (pa_cons (pv 1) (pa_cons (pe_bltn (v := .ty "list") (by rfl) T.m_list (by decide +kernel) rfl) pa_nil))) (nomark _)) (pw_or1 (pt_cmpR op_ne (pe_callB call_isi (by rfl) T.m_isinstance (by decide +kernel) (pa_cons (pv 0) (pa_cons (pe_bltn (v := .ty "tuple") (by rfl) T.m_tuple (by decide +kernel) rfl) pa_nil))) (pe_callB call_isi (by rfl) T.m_isinstance (by decide +kernel) (pa_cons (pv 1) (pa_cons (pe_bltn (v := .ty "tuple") (by rfl) T.m_tuple (by decide +kernel) rfl) pa_nil))) (nomark _))))) (pss_one (ps_ret pe_bl)) pss_nil)
      (pss_one (ps_ret (pe_and (pe_cmpR op_eq (pe_callB call_len_seq (by rfl) T.m_len PySem.boot_len (pa_cons (pv 0) pa_nil)) (pe_callB call_len_seq (by rfl) T.m_len PySem.boot_len (pa_cons (pv 1) pa_nil)) (nomark _)) (pe_one (pe_callB (cr_all rfl) (by rfl) T.m_all (by decide +kernel) (pa_cons (pe_lc (own := [("_law_left", 2), ("_law_right", 3)]) (g := gTup K 2 (gCons (gName 2) (gCons (gName 3) gNil))) (tt := tYes) rfl sc_L_same.nd (pi_zipA (by rfl) T.m_zip (pa_cons (pv 0) (pa_cons (pv 1) pa_nil))) (blkOk_by (own := [("_law_left", 2), ("_law_right", 3)]) (N := ["_law_found", "_law_due", "_law_left", "_law_right"]) (sc := defScope s_L_same) (by decide +kernel)) (fun _ _ _ _ _ => pg_tup rfl (pgs_cons (pg_name (i := 2) sc_L_same.nd rfl (Or.inl rfl)) (pgs_cons (pg_name (i := 3) sc_L_same.nd rfl (Or.inl rfl)) pgs_nil))) (fun _ _ _ _ _ => pts_nil) (fun _ _ _ _ _ => (pe_call IH (hr.mono (by omega)) (by rfl) T.L_same.g T.L_same.F.kp T.L_same.b .nil pass0 (pa_cons (pv 2) (pa_cons (pv 3) pa_nil))))) pa_nil))))))) pss_nil)
      (pss_cons (ps_if (pt_val (pe_callB call_isiT (by rfl) T.m_isinstance (by decide +kernel) (pa_cons (pv 1) (pa_cons (pe_tup (pa_cons (pe_bltn (v := .ty "bool") (by rfl) T.m_bool (by decide +kernel) rfl) (pa_cons (pe_bltn (v := .ty "int") (by rfl) T.m_int (by decide +kernel) rfl) pa_nil))) pa_nil)))) (pss_one (ps_ret (pe_and (pe_callB call_isi (by rfl) T.m_isinstance (by decide +kernel) (pa_cons (pv 0) (pa_cons (pe_bltn (v := .ty "int") (by rfl) T.m_int (by decide +kernel) rfl) pa_nil))) (pe_and (pe_cmpR op_eq (pe_callB call_isi (by rfl) T.m_isinstance (by decide +kernel) (pa_cons (pv 0) (pa_cons (pe_bltn (v := .ty "bool") (by rfl) T.m_bool (by decide +kernel) rfl) pa_nil))) (pe_callB call_isi (by rfl) T.m_isinstance (by decide +kernel) (pa_cons (pv 1) (pa_cons (pe_bltn (v := .ty "bool") (by rfl) T.m_bool (by decide +kernel) rfl) pa_nil))) (nomark _)) (pe_one (pe_cmpR op_eq (pv 0) (pv 1) (nomark _))))))) pss_nil)
      (pss_one (ps_ret (pe_and (pe_not (pe_callB call_isiT (by rfl) T.m_isinstance (by decide +kernel) (pa_cons (pv 0) (pa_cons (pe_tup (pa_cons (pe_bltn (v := .ty "bool") (by rfl) T.m_bool (by decide +kernel) rfl) (pa_cons (pe_bltn (v := .ty "int") (by rfl) T.m_int (by decide +kernel) rfl) (pa_cons (pe_bltn (v := .ty "list") (by rfl) T.m_list (by decide +kernel) rfl) (pa_cons (pe_bltn (v := .ty "tuple") (by rfl) T.m_tuple (by decide +kernel) rfl) pa_nil))))) pa_nil)))) (pe_one (pe_cmpR op_eq (pv 0) (pv 1) (nomark _)))))))), ?_⟩
      refine ⟨_, rfl, sz2, fun tp ntp => ⟨_, tp, _, _, _, _, rfl, upd_same, .cons (.ty _) (.cons (.ty _) .nil), dat_ty (h2.k (same_upd ntp)), kit_list _, _, rfl, ?_⟩⟩
      have q1 := same_upd (o := .tup [V.ty "list", V.ty "tuple"]) ntp
      have g1 := h1.k q1
      have g2 := h2.k q1
      generalize upd H tp (.tup [V.ty "list", V.ty "tuple"]) = H1 at q1 g1 g2 ⊢
      cases hsq : seqD d with
      | none =>
        rw [show isListD d = false from by unfold isListD; rw [hsq]; rfl]
        refine iteF ?_
        refine ⟨_, rfl, sz2, fun t2 nt2 => ⟨_, t2, _, _, _, _, rfl, upd_same, .cons (.ty _) (.cons (.ty _) .nil), dat_ty (g2.k (same_upd nt2)), kit_bi _, _, rfl, ?_⟩⟩
        have q2 := same_upd (o := .tup [V.ty "bool", V.ty "int"]) nt2
        have g1 := g1.k q2
        have g2 := g2.k q2
        have q2 := q1.trans q2
        generalize upd H1 t2 (.tup [V.ty "bool", V.ty "int"]) = H2 at q2 g1 g2 ⊢
        cases d with
        | list ds => cases hsq
        | tuple ds => cases hsq
        | dict ks => exact absurd ⟨ks, rfl⟩ hdc
        | int i =>
          refine iteT ?_
          refine ⟨_, rfl, _, _, _, _, _, rfl, .ty _, dat_ty g1, kit_int _, _, rfl, iteT ?_⟩
          refine ⟨_, rfl, _, _, _, _, _, rfl, .ty _, dat_ty g1, kit_bool _, _, rfl, _, _, _, _, _, rfl, .ty _, dat_ty g2, kit_bool _, rfl, _, rfl, iteT ?_⟩
          cases g1
          cases g2
          exact ⟨_, rfl, _, rfl, rfl, by rw [decide_eq_true rfl]; exact k _ q2⟩
        | bool b =>
          refine iteT ?_
          refine ⟨_, rfl, _, _, _, _, _, rfl, .ty _, dat_ty g1, kit_int _, _, rfl, iteT ?_⟩
          refine ⟨_, rfl, _, _, _, _, _, rfl, .ty _, dat_ty g1, kit_bool _, _, rfl, _, _, _, _, _, rfl, .ty _, dat_ty g2, kit_bool _, rfl, _, rfl, iteT ?_⟩
          cases g1
          cases g2
          exact ⟨_, rfl, _, rfl, rfl, by rw [decide_eq_true rfl]; exact k _ q2⟩
        | none =>
          refine iteF ?_
          refine ⟨_, rfl, sz4, fun t3 nt3 => ⟨_, t3, _, _, _, _, rfl, upd_same, .cons (.ty _) (.cons (.ty _) (.cons (.ty _) (.cons (.ty _) .nil))), dat_ty (g1.k (same_upd nt3)), kit_4 _, _, rfl, _, rfl, ?_⟩⟩
          have q3 := same_upd (o := .tup [V.ty "bool", V.ty "int", V.ty "list", V.ty "tuple"]) nt3
          cases g1
          cases g2
          exact iteT ⟨_, rfl, _, rfl, rfl, by rw [decide_eq_true rfl]; exact k _ (q2.trans q3)⟩
        | str x =>
          refine iteF ?_
          refine ⟨_, rfl, sz4, fun t3 nt3 => ⟨_, t3, _, _, _, _, rfl, upd_same, .cons (.ty _) (.cons (.ty _) (.cons (.ty _) (.cons (.ty _) .nil))), dat_ty (g1.k (same_upd nt3)), kit_4 _, _, rfl, _, rfl, ?_⟩⟩
          have q3 := same_upd (o := .tup [V.ty "bool", V.ty "int", V.ty "list", V.ty "tuple"]) nt3
          cases g1
          cases g2
          exact iteT ⟨_, rfl, _, rfl, rfl, by rw [decide_eq_true rfl]; exact k _ (q2.trans q3)⟩
      | some ds =>
        obtain ⟨hlen, hall⟩ := hdep ds hsq
        rw [show isListD d = true from by unfold isListD; rw [hsq]; rfl]
        refine iteT ?_
        have eq0 : ∀ b : Bool, (!decide (V.bl b = V.bl b)) = false := fun b => by rw [decide_eq_true rfl]; rfl
        refine ⟨_, rfl, _, _, _, _, _, rfl, .ty _, dat_ty g1, kit_l _, _, rfl, _, _, _, _, _, rfl, .ty _, dat_ty g2, kit_l _, rfl, ?_⟩
        rw [eq0]
        refine ⟨_, rfl, iteF ?_⟩
        refine ⟨_, rfl, _, _, _, _, _, rfl, .ty _, dat_ty g1, kit_t _, _, rfl, _, _, _, _, _, rfl, .ty _, dat_ty g2, kit_t _, rfl, ?_⟩
        rw [eq0]
        refine ⟨_, rfl, iteF ?_⟩
        cases d with
        | none => cases hsq
        | bool b => cases hsq
        | int i => cases hsq
        | str x => cases hsq
        | dict ks => cases hsq
        | list ds' =>
          cases hsq
          cases g1 with
          | lst ha hda =>
            cases g2 with
            | lst hb hdb =>
              rename_i a xs b ys
              have la := hda.length
              have lb := hdb.length
              have eqL : decide (V.int (xs.length : Nat) = V.int (ys.length : Nat)) = true := decide_eq_true (by rw [la, lb])
              refine ⟨_, rfl, _, _, rfl, .inl (SqL.of ha), _, rfl, _, _, rfl, .inl (SqL.of hb), rfl, ?_⟩
              rw [eqL]
              refine ⟨_, rfl, iteT ?_⟩
              refine ⟨_, rfl, _, rfl, a, b, xs, ys, rfl, .inl ⟨(SqL.of ha), (SqL.of hb), fun D nD => lc_it (walk_zip (n := ds.length) (by omega)) (fun i H' => Same H1 H' ∧ H' D = some (.lst ((List.replicate i true).map V.bl))) ⟨same_upd nD, upd_same⟩ (fun i H' _ ⟨e, _⟩ => ⟨e.seq (SqL.of ha), e.seq (SqL.of hb)⟩) ?_ ?_⟩⟩
              · rintro i z H2 H3 hi ⟨e2, hD⟩ ⟨Tp, x, y, rfl, nT, rfl, hx, hy⟩
                have s3 := same_upd (o := .tup [x, y]) nT
                obtain ⟨dx, hdx, rx⟩ := DatAll.get hda hx
                obtain ⟨dy, hdy, ry⟩ := DatAll.get hdb hy
                obtain rfl := Option.some.inj (hdx.symm.trans hdy)
                refine ⟨Tp, _, rfl, .inl (.inl upd_same), rfl, _, _, rfl, _, _, rfl, rfl, rfl, ?_⟩
                refine ⟨_, rfl, _, rfl, x, y, dx, rfl, (rx.k e2).k s3, (ry.k e2).k s3, hall dx (List.mem_of_getElem? hdx), fun H4 s4 => ?_⟩
                have s34 := s3.trans s4
                have hD4 := s34 _ _ hD
                refine ⟨_, hD4, small1000 (by rw [List.length_map, List.length_replicate]; omega), fun b o hb' => ?_, ?_⟩
                · rw [upd_ne (ne_of_none hb' nD)]
                  exact s34 _ _ (e2 _ _ hb')
                · rw [upd_same, List.replicate_succ', List.map_append]
                  rfl
              · rintro H2 ⟨e2, hD⟩
                refine ⟨D, _, rfl, SqL.of hD, ?_⟩
                rw [show (List.replicate ds.length true).all id = true from by simp]
                exact k _ (q1.trans e2)
        | tuple ds' =>
          cases hsq
          cases g1 with
          | tup ha hda =>
            cases g2 with
            | tup hb hdb =>
              rename_i a xs b ys
              have la := hda.length
              have lb := hdb.length
              have eqL : decide (V.int (xs.length : Nat) = V.int (ys.length : Nat)) = true := decide_eq_true (by rw [la, lb])
              refine ⟨_, rfl, _, _, rfl, .inr ha, _, rfl, _, _, rfl, .inr hb, rfl, ?_⟩
              rw [eqL]
              refine ⟨_, rfl, iteT ?_⟩
              refine ⟨_, rfl, _, rfl, a, b, xs, ys, rfl, .inr ⟨ha, hb, fun D nD => lc_it (walk_zipT (n := ds.length) (by omega)) (fun i H' => Same H1 H' ∧ H' D = some (.lst ((List.replicate i true).map V.bl))) ⟨same_upd nD, upd_same⟩ (fun i H' _ ⟨e, _⟩ => ⟨e.sqT ha, e.sqT hb⟩) ?_ ?_⟩⟩
              · rintro i z H2 H3 hi ⟨e2, hD⟩ ⟨Tp, x, y, rfl, nT, rfl, hx, hy⟩
                have s3 := same_upd (o := .tup [x, y]) nT
                obtain ⟨dx, hdx, rx⟩ := DatAll.get hda hx
                obtain ⟨dy, hdy, ry⟩ := DatAll.get hdb hy
                obtain rfl := Option.some.inj (hdx.symm.trans hdy)
                refine ⟨Tp, _, rfl, .inl (.inl upd_same), rfl, _, _, rfl, _, _, rfl, rfl, rfl, ?_⟩
                refine ⟨_, rfl, _, rfl, x, y, dx, rfl, (rx.k e2).k s3, (ry.k e2).k s3, hall dx (List.mem_of_getElem? hdx), fun H4 s4 => ?_⟩
                have s34 := s3.trans s4
                have hD4 := s34 _ _ hD
                refine ⟨_, hD4, small1000 (by rw [List.length_map, List.length_replicate]; omega), fun b o hb' => ?_, ?_⟩
                · rw [upd_ne (ne_of_none hb' nD)]
                  exact s34 _ _ (e2 _ _ hb')
                · rw [upd_same, List.replicate_succ', List.map_append]
                  rfl
              · rintro H2 ⟨e2, hD⟩
                refine ⟨D, _, rfl, SqL.of hD, ?_⟩
                rw [show (List.replicate ds.length true).all id = true from by simp]
                exact k _ (q1.trans e2)
theorem ok_L_same (T : Txt K mg) : FnOk P w K mg base CX0 10 T.L_same.f T.L_same.fd ["_law_found", "_law_due"] (spSame K 9) :=
  ok_sameS T (ok_sameS T (ok_sameS T (ok_sameS T (ok_sameS T (ok_sameS T (ok_sameS T (ok_sameS T (ok_sameS T (ok_same0 T)))))))))
end
end KX
set_option Elab.async false
set_option linter.all false
set_option maxRecDepth 100000
set_option maxHeartbeats 4000000
set_option exponentiation.threshold 20000
namespace KX
open PySem PySem.Spec PyProof.Rows L2
/-! ### try: .. except c1 as n: .. except c2 as n: .. -/
/-- the ends of a suite whose name (slot i) goes -/
def endsAs (i : Nat) (D : Ends) : Ends := { nx := fun σ' H' => D.nx (σ'.set i none) H', rt := D.rt, bk := fun σ' H' => D.bk (σ'.set i none) H', ct := fun σ' H' => D.ct (σ'.set i none) H' }
def wTwo (K : PySem.W.Frag) (m : Nat) (c1 c2 : Value) (i : Nat) (t1 t2 : Addr → Value → Option Addr → TS) (D : Ends) : WX := fun cls d σ H =>
  (PySem.W.exmOne K cls c1 = some true ∧ ∀ a, H a = none → σ.length = m → t1 a cls d (endsAs i D) (σ.set i (some (.ref a))) H) ∨
  (PySem.W.exmOne K cls c1 = some false ∧ PySem.W.exmOne K cls c2 = some true ∧ ∀ a, H a = none → σ.length = m → t2 a cls d (endsAs i D) (σ.set i (some (.ref a))) H)
section
variable {X : Cx} {n : Str} {i : Nat}
/-- how a clause's suite is told -/
abbrev SuiteOk (X : Cx) (b : List Stmt) (t : Addr → Value → Option Addr → TS) : Prop :=
  ∀ (a : Addr) (oe : Obj) (cls : Value) (d : Option Addr) (pn : List (Addr × Obj)), Zc cls d oe → (∃ vs, oe.data = .fields vs) → PSs (X.suite a ((a, oe) :: pn)) b (t a cls d)
theorem ps_try_two {x1 x2 : Str} {c1 c2 : Value} {body s1 s2 : List Stmt} {b1 b2 : Stmt} {q1 q2 p1 p2 pos : Pos} {tb : WX → TS} {t1 t2 : Addr → Value → Option Addr → TS}
    (hs : X.stack = X.env :: X.outer) (hf : X.env.frame = some X.env.locals) (hN : X.N.Nodup) (hi : X.N[i]? = some n) (hln : X.env.kindOf n = some .local) (hc1 : Names X x1 c1) (hc2 : Names X x2 c2)
    (hb : ∀ (W : WX) (pn : List (Addr × Obj)) (xe : Value → Shared → Prop), Takes (X.tr pn xe) W → PassesOwn (model X.prog X.w) X.A X.env xe → PSs (X.tr pn xe) body (tb W))
    (h1 : SuiteOk X (b1 :: s1) t1) (h2 : SuiteOk X (b2 :: s2) t2) :
    PS X (.Try body [.ExceptHandler (some (.Name x1 q1)) (some n) (b1 :: s1) p1, .ExceptHandler (some (.Name x2 q2)) (some n) (b2 :: s2) p2] [] [] pos) (fun D σ H => tb (wTwo X.K X.N.length c1 c2 i t1 t2 D) D σ H) := by
  refine ⟨fun pins s σ H D I h => ?_⟩
  have ok := I.ok
  have hfr : X.A.frames = some (X.env :: X.outer) := by rw [ok.frames, hs]
  refine wpAny_Try_except (wpAny_mono ((hb (wTwo X.K X.N.length c1 c2 i t1 t2 D) (X.pn ++ pins) (fun e s₁ => wpAny (model X.prog X.w) X.A (noteFrame e X.env) (fun _ s₂ => wpAny (model X.prog X.w) X.A (setFlight e none) (fun _ s₃ =>
    wpAny (model X.prog X.w) X.A (handleBy e X.env [.ExceptHandler (some (.Name x1 q1)) (some n) (b1 :: s1) p1, .ExceptHandler (some (.Name x2 q2)) (some n) (b2 :: s2) p2]) (SP X pins D) X.xe s₃) X.xe s₂) X.xe s₁) (fun u s' xx => ?_) PassesOwn.looking).run [] s σ H D (I.toTry _) h) (fun f s1 hsp => ?_) (fun e s1 he => he))
  · obtain ⟨a, B, sI, pins', σ', H', cls, d, rfl, J', nb, up, sky, na, os, ag, w⟩ := xx
    have J : Inv X pins σ' H' sI := J'.ofTry ok
    have sky' : Sky B (X.env :: X.outer) a (Zc cls d) X.env.locals s'.heap := by rw [← hs]; exact sky
    show wpAny (model X.prog X.w) X.A (noteFrame (.ref a) X.env) _ _ _
    refine Sky.land Zc.steady hfr hf sky' fun h3 fl3 up3 => ?_
    have J3 : Inv X pins σ' H' { s' with heap := h3 } := J.landed nb fl3.1 (up.trans up3) os ag
    obtain ⟨oe3, vs3, he3, hz3, hd3⟩ := fl3.there
    have nfr : a ∉ frs (X.env :: X.outer) := fun hm => by
      obtain ⟨_, o', e', hnf⟩ := fl3.2.2.1.mem hm
      rw [he3] at e'
      cases e'
      exact hnf _ hd3
    have nL : a ≠ X.env.locals := fun z => nfr (List.mem_filterMap.mpr ⟨X.env, List.mem_cons_self, by rw [hf, z]⟩)
    have nF : a ∉ X.fs := fun hm => by
      obtain ⟨e, he, q⟩ := List.mem_filterMap.mp hm
      exact nfr (List.mem_filterMap.mpr ⟨e, List.mem_cons_of_mem _ he, q⟩)
    have S3 := J3.suite he3 hd3 na nL nF
    have LT : PySem.W.Looks (model X.prog X.w) h3 (typeOf (.ref a)) cls := fun A Q E s k q => wpAny_typeOf_ref (k _ _ he3) (by rw [hz3.1]; exact q)
    -- the class of a clause is read
    have test : ∀ {x : Str} {c : Value} {np : Pos}, Names X x c → ∀ {Q E : Value → Shared → Prop}, Q c { s' with heap := h3 } → wpAny (model X.prog X.w) (X.A.mark (some (.ref a))) (eval (.Name x np) X.env) Q E { s' with heap := h3 } := fun {x c np} hc {Q E} q => by
      obtain ⟨hg, hdbg, hm | ⟨hm, hv, hnn⟩⟩ := hc
      · exact ld_glob (X := X.suite a ((a, oe3) :: (X.pn ++ pins))) S3 hg hm q hdbg
      · exact ld_blt (X := X.suite a ((a, oe3) :: (X.pn ++ pins))) S3 hg hm hv q hnn hdbg
    -- a clause that takes it
    have yes : ∀ {x : Str} {c : Value} {np pc : Pos} {b : Stmt} {su : List Stmt} {t : Addr → Value → Option Addr → TS} {rest : List ExceptHandler}, Names X x c → PySem.W.exmOne X.K cls c = some true → SuiteOk X (b :: su) t →
        (∀ a, H' a = none → σ'.length = X.N.length → t a cls d (endsAs i D) (σ'.set i (some (.ref a))) H') →
        wpAny (model X.prog X.w) X.A (handleBy (.ref a) X.env (.ExceptHandler (some (.Name x np)) (some n) (b :: su) pc :: rest)) (SP X pins D) X.xe { s' with heap := h3 } := by
      intro x c np pc b su t rest hc hk hsu hw
      refine wpAny_handleBy_cons (codeAny_handlers_test (test hc ((PySem.W.exm_one (M := model X.prog X.w) (J3.kIn) LT hk).here ?_))) (by intro q; cases q)
      refine codeAny_handlers_suite_as (HandSPX.lands_againZ fl3 fun h4 fl4 up4 => ?_)
      have J4 : Inv X pins σ' H' { s' with heap := h4 } := J.landed nb fl4.1 ((up.trans up3).trans up4) os ag
      obtain ⟨oe4, vs4, he4, hz4, hd4⟩ := fl4.there
      refine store_ok (X := X.suite a ((a, oe4) :: (X.pn ++ pins))) (v := .ref a) (J4.suite he4 hd4 na nL nF) hN hi (.inl hln) rfl (fun s5 S5 => ?_) (.inr hln)
      refine wpAny_mono ((hsu a oe4 cls d (X.pn ++ pins) hz4 ⟨_, hd4⟩).run [] s5 _ H' _ S5 (hw a na J.len)) (fun f s6 hsp => ?_) (fun _ _ z => False.elim z)
      have gone : ∀ {σ6 : L2.St} {H6 : Hp} {Q : Shared → Prop}, Inv (X.suite a ((a, oe4) :: (X.pn ++ pins))) [] σ6 H6 s6 → (∀ s7, Inv X pins (σ6.set i none) H6 s7 → Q s7) →
          wpAny (model X.prog X.w) X.A (do bindName X.env n .none; unbindBehindTheSuite X.env n pc) (fun _ s7 => Q s7) X.xe s6 := fun {σ6 H6 Q} S6 hq => gone_ok (S6.unsuite ok) hN hi hln hq
      cases f with
      | ret u =>
        obtain ⟨v6, σ6, H6, S6, r6, q6⟩ := hsp
        exact gone S6 fun s7 J7 => ⟨_, _, _, J7, r6, q6⟩
      | next =>
        obtain ⟨σ6, H6, S6, q6⟩ := hsp
        exact gone S6 fun s7 J7 => ⟨_, _, J7, q6⟩
      | brk =>
        obtain ⟨σ6, H6, S6, q6⟩ := hsp
        exact gone S6 fun s7 J7 => ⟨_, _, J7, q6⟩
      | cont =>
        obtain ⟨σ6, H6, S6, q6⟩ := hsp
        exact gone S6 fun s7 J7 => ⟨_, _, J7, q6⟩
    rcases w with ⟨k1, w⟩ | ⟨k1, k2, w⟩
    · exact yes hc1 k1 h1 w
    · refine wpAny_handleBy_cons (codeAny_handlers_test (test hc1 ((PySem.W.exm_one (M := model X.prog X.w) (J3.kIn) LT k1).here ?_))) (by intro q; cases q)
      exact yes hc2 k2 h2 w
  · cases f with
    | ret u =>
      obtain ⟨v, σ', H', J', r, q⟩ := hsp
      exact ⟨v, σ', H', J'.ofTry ok, r, q⟩
    | next =>
      obtain ⟨σ', H', J', q⟩ := hsp
      exact wpAny_execs_nil ⟨σ', H', J'.ofTry ok, q⟩
    | brk =>
      obtain ⟨σ', H', J', q⟩ := hsp
      exact ⟨σ', H', J'.ofTry ok, q⟩
    | cont =>
      obtain ⟨σ', H', J', q⟩ := hsp
      exact ⟨σ', H', J'.ofTry ok, q⟩
end
/-! ### _law_met_forms(lambda: ..) -/
def EMet (CF CS : Addr) (Q : VK) : XK := fun cls d H' =>
  (cls = .ref CF ∧ ∃ dd v, d = some dd ∧ H' dd = some (.xd [("thing", v)]) ∧ ∀ t, H' t = none → Q (.ref t) (upd H' t (.tup [.str "form", v]))) ∨
  (cls = .ref CS ∧ ∃ dd v, d = some dd ∧ H' dd = some (.xd [("index", v)]) ∧ ∀ t, H' t = none → Q (.ref t) (upd H' t (.tup [.str "forms", v])))
def TTmet (CF CS : Addr) : (XK → Hp → VK → Prop) → Hp → VK → Prop := fun tl H Q => tl (EMet CF CS Q) H (fun _ H' => Q .non H')
theorem met_gives {X : Cx} (U : TxE X.prog X.K X.mg) {g : Addr} {cdg : Value} {q : Str} :
    LamX.GivesTo X ["_law_ask", "e"] "_law_met_forms" (defScope s_L_met_forms) g cdg (defBody s_L_met_forms) "_law_ask" q (TTmet U.CF U.CS) := by
  intro f c' s H Q tl act hc h
  refine ⟨_, pss_cons (ps_try_two (X := (cxOf C8.CX0 X.prog X.w X.K X.mg X.base ["_law_ask", "e"] "_law_met_forms" (defScope s_L_met_forms) g cdg X.A X.stack s H C8.E0).nox) (n := "e") (i := 1)
      (tb := fun W D σ H => ∃ Ech : XK, (∀ cls d σ' H', Ech cls d H' → W cls d σ' H') ∧ σ[0]? = some (some (.ref f)) ∧ H c' = some (LamX.CodeO c' q) ∧ tl Ech H (fun _ H' => D.nx σ H'))
      rfl rfl sc_L_met_forms.nd rfl rfl ⟨rfl, by decide, .inl U.bf.gC⟩ ⟨rfl, by decide, .inl U.bs.gC⟩ (fun W pn xe tk _ => ?_)
      (fun a oe cls d pn hz hf => pss_one (ps_ret (pe_tup (pa_cons pe_str (pa_cons (L2.EBF.pe_byE U.bf hz hf (pv 1)) pa_nil)))))
      (fun a oe cls d pn hz hf => pss_one (ps_ret (pe_tup (pa_cons pe_str (pa_cons (L2.EBS.pe_byE U.bs hz hf (pv 1)) pa_nil)))))) (pss_one (ps_ret pe_non)), ?_⟩
  · refine ⟨fun pins s' σ H' D I h' => ?_⟩
    obtain ⟨Ech, hW, h1, h2, h3⟩ := h'
    exact (pss_one (ps_expr (act W pn xe Ech _ _ tk hW))).run pins s' σ H' D I ⟨h1, h2, h3⟩
  · refine ⟨EMet U.CF U.CS Q, fun cls d σ' H' he => ?_, rfl, hc, h⟩
    rcases he with ⟨rfl, dd, v, rfl, hd, k⟩ | ⟨rfl, dd, v, rfl, hd, k⟩
    · refine .inl ⟨U.bf.te, fun a _ hl => ⟨_, by rw [List.getElem?_set_self (by rw [hl]; exact Nat.lt_succ_self 1)], rfl, rfl, dd, v, rfl, hd, sz2, fun t nt => k t nt⟩⟩
    · refine .inr ⟨U.sf, U.bs.te, fun a _ hl => ⟨_, by rw [List.getElem?_set_self (by rw [hl]; exact Nat.lt_succ_self 1)], rfl, rfl, dd, v, rfl, hd, sz2, fun t nt => k t nt⟩⟩
end KX
set_option Elab.async false
set_option linter.all false
set_option maxRecDepth 100000
set_option maxHeartbeats 4000000
set_option exponentiation.threshold 20000
namespace KX
open PySem PySem.Spec PyProof.Rows L2
theorem pe_met {X : Cx} (T : Txt X.K X.mg) (U : TxE X.prog X.K X.mg) {c P : Addr} {k : Nat} {params : Arguments} {body : Expr} {scope : Scope} {t : XK → TE} {p lpos pos : Pos} (hg : Gl X "_law_met_forms") (TB : LamX.TabB X.base X.mg c P)
    (hcode : X.env.code = .ref c) (hr : Room (k + 2) X.A) (L : LamX.LamS X.env.scope scope)
    (hbody : ∀ (A : Around) (outer : List Env) (s : Shared) (H : Hp) (E : XK) (f c' : Addr), Room k (A.deeper (LamX.lamEnv X scope s.heap.objs.size f c')) → PE (LamX.lamCx X A outer s H E scope f c') body (t E))
    (hdef : defaultsOf params X.env = ([], []) := by rfl)
    (hbind : ∀ (q : Str) (cl : List (Str × Addr)) (pm cv ctv : Value), bindArgs (PySem.W.kla_fn "<lambda>" q params body scope cl pm cv ctv) ⟨[], []⟩ = pure [] := by intros; rfl) :
    PE X (.Call (.Name "_law_met_forms" p) [.Lambda params body scope lpos] [] pos) (LamX.tLam [(P, X.env.qual ++ "<lambda>")] (TTmet U.CF U.CS) t) := by
  have hb := T.L_met_forms.b
  obtain ⟨oc, od, kV, doc, pm, an, cdv, ct, osl, e, lk, hcd⟩ := T.L_met_forms.F.ex
  rw [e] at hb lk
  exact LamX.pe_lamcall hg T.L_met_forms.g T.L_met_forms.F.kp lk hcd hb sc_L_met_forms rfl (.inl rfl) (met_gives U) TB hcode (List.mem_singleton.mpr rfl) (fun q hq _ => by rw [List.mem_singleton.mp hq]) hr L hdef hbind hbody
theorem passLam {X : Cx} {A : Around} {outer : List Env} {s : Shared} {H : Hp} {E : XK} {scope : Scope} {f c' : Addr} : Passes (L2.CX X.prog X.w) (LamX.lamCx X A outer s H E scope f c') E :=
  passes_call (X := LamX.lamCx X A outer s H E scope f c') (takes_of rfl rfl rfl rfl) (fun _ _ _ _ h => h)
section
variable {P : Program} {w : World} {K : PySem.W.Frag} {mg : Str → Option Value} {base : Heap}
/-- the def's code object stands at c -/
def CodeAt (K : PySem.W.Frag) (x qual : Str) (st : Stmt) (f : Addr) (fd : FuncData) (c : Addr) : Prop :=
  ∃ (oc : Value) (od : Option Addr) (kV doc pm : Value) (an : Option Addr) (ct : Value) (osl : Array (Option Value)),
    fd = PySem.W.fnOf x qual (defArgs st) (defBody st) (defScope st) .none kV doc pm an (.ref c) ct ∧ K.lookup f = some ⟨oc, od, .func fd, osl⟩ ∧ PySem.W.codeIn K (.ref c) qual = true
theorem okC {x qual : Str} {st : Stmt} {f c : Addr} {fd : FuncData} {N ps : List Str} {k : Nat} {sp : Sp} (F : CodeAt K x qual st f fd c) (S : FnScope N ps (defScope st)) (len : ∀ vs H Q E, sp vs H Q E → vs.length = ps.length)
    (hbody : ∀ (A : Around) (outer : List Env) (s : Shared) (H : Hp) (vs : List V) (Q : VK) (E : XK), Room k (A.deeper (envOfC qual (defScope st) s.heap.objs.size f (.ref c))) → sp vs H Q E →
      ∃ t, PSs (cxOf CX0 P w K mg base N qual (defScope st) f (.ref c) A outer s H E).nox (defBody st) t ∧ t { nx := fun _ H' => Q .non H', rt := Q } (L2.start N vs) H) : FnOk P w K mg base CX0 (k + 1) f fd ps sp := by
  obtain ⟨oc, od, kV, doc, pm, an, ct, osl, rfl, lk, hcd⟩ := F
  refine fn_of lk hcd S len fun A outer s H vs Q E hr hsp => ?_
  obtain ⟨t, h, q⟩ := hbody A outer s H vs Q E hr hsp
  exact ⟨t, h.nox, q⟩
end
/-! ### what the making of a lambda keeps -/
abbrev LTb (PT : Addr) (q : Str) : List (Addr × Str) := [(PT, q)]
theorem tupsN {H H' : Hp} (e : LamX.ExtN H H') : Tups H H' := fun b o h ⟨xs, k⟩ => e b o h fun ps z => by
  subst z
  rcases k with k | ⟨u, k⟩ <;> cases k
theorem extL {H H' : Hp} (e : LamX.ExtN H H') {r : Addr} {xs : List V} (h : H r = some (.lst xs)) : H' r = some (.lst xs) := e r _ h fun ps z => by cases z
theorem extT {H H' : Hp} (e : LamX.ExtN H H') {r : Addr} {xs : List V} (h : H r = some (.tup xs)) : H' r = some (.tup xs) := e r _ h fun ps z => by cases z
section
variable {K : PySem.W.Frag} {H H' : Hp}
mutual
theorem DatN (e : LamX.ExtN H H') : ∀ (d : PyData) (v : V), Dat K H v d → Dat K H' v d
  | .none, v, h => by cases h; exact .non
  | .bool b, v, h => by cases h; exact .bl b
  | .int b, v, h => by cases h; exact .int b
  | .str b, v, h => by cases h; exact .str b
  | .list ds, v, h => by cases h with | lst h1 h2 => exact .lst (extL e h1) (DatAllN e ds _ h2)
  | .tuple ds, v, h => by cases h with | tup h1 h2 => exact .tup ((tupsN e).sqT h1) (DatAllN e ds _ h2)
  | .dict ds, v, h => by cases h with | dct h1 => exact .dct (e _ _ h1 fun ps z => by cases z)
theorem DatAllN (e : LamX.ExtN H H') : ∀ (ds : List PyData) (vs : List V), DatAll K H vs ds → DatAll K H' vs ds
  | [], vs, h => by cases h; exact .nil
  | d :: ds, vs, h => by cases h with | cons h1 h2 => exact .cons (DatN e d _ h1) (DatAllN e ds _ h2)
end
end
theorem tabs_lst {Tb : List (Addr × Str)} {H : Hp} {r : Addr} {ys zs : List V} (T : LamX.Tabs Tb H) (h : H r = some (.lst ys)) : LamX.Tabs Tb (upd H r (.lst zs)) := fun p hp => by
  obtain ⟨ps, h1, h2, h3⟩ := T p hp
  have ne : ∀ {b : Addr} {o : HO}, H b = some o → (∀ xs, o ≠ .lst xs) → b ≠ r := fun {b o} e n z => by
    rw [z, h] at e
    exact n ys (Option.some.inj e).symm
  refine ⟨ps, by rw [upd_ne (ne h1 fun xs z => by cases z)]; exact h1, h2, fun pos cv hc => ?_⟩
  obtain ⟨c, e1, e2⟩ := h3 pos cv hc
  exact ⟨c, e1, by rw [upd_ne (ne e2 fun xs z => by unfold LamX.CodeO at z; cases z)]; exact e2⟩
theorem tabs_dw {Tb : List (Addr × Str)} {a : Addr} {H H' : Hp} (hD : DrAt H a) (w : Dw a H H') (T : LamX.Tabs Tb H) : LamX.Tabs Tb H' := fun p hp => by
  obtain ⟨ps, h1, h2, h3⟩ := T p hp
  have ne : ∀ {b : Addr} {o : HO}, H b = some o → (∀ xs, o ≠ .lst xs) → b ≠ a := fun {b o} e n z => by
    obtain ⟨c, m, k, hD⟩ := hD
    rw [z, hD] at e
    exact n _ (Option.some.inj e).symm
  refine ⟨ps, w.keep _ _ (ne h1 fun xs z => by cases z) h1, h2, fun pos cv hc => ?_⟩
  obtain ⟨c, e1, e2⟩ := h3 pos cv hc
  exact ⟨c, e1, w.keep _ _ (ne e2 fun xs z => by unfold LamX.CodeO at z; cases z) e2⟩
/-- r isn't known at H (but perhaps as a table) -/
def NewN (H : Hp) (r : Addr) : Prop := ∀ o, H r = some o → ∃ ps, o = .tbl ps
theorem newN_of {H H' : Hp} (e : LamX.ExtN H H') {r : Addr} (n : H' r = none) : NewN H r := fun o h => by
  by_cases z : ∃ ps, o = .tbl ps
  · exact z
  · have := e r o h fun ps q => z ⟨ps, q⟩
    rw [n] at this
    cases this
theorem ext_app {H H' : Hp} (e : LamX.ExtN H H') {r : Addr} {o : HO} (n : NewN H r) : LamX.ExtN H (upd H' r o) := fun b u h k => by
  by_cases z : b = r
  · subst z
    obtain ⟨ps, q⟩ := n u h
    exact absurd q (k ps)
  · rw [upd_ne z]
    exact e b u h k
theorem tup_app {H : Hp} {r t : Addr} {ys zs xs : List V} (h : H r = some (.lst ys)) (ht : H t = some (.tup xs)) : upd H r (.lst zs) t = some (.tup xs) := by
  rw [upd_ne (fun z => by rw [z, h] at ht; cases ht)]
  exact ht
theorem qerr_f {Tb : List (Addr × Str)} {Hc H1 : Hp} {Q : VK} {CF CS : Addr} {v : V} (e : LamX.ExtN Hc H1) (T : LamX.Tabs Tb H1) (k : ∀ t H', LamX.ExtN Hc H' → LamX.Tabs Tb H' → H' t = some (.tup [.str "form", v]) → Q (.ref t) H') :
    QErr H1 (EMet CF CS Q) CF "thing" v := fun dd H' s n hdd => .inl ⟨rfl, dd, v, rfl, hdd, fun t nt => k t _ ((e.trans (.of s)).trans (.of (same_upd nt))) ((T.ext s).ext (same_upd nt)) upd_same⟩
theorem qerr_s {Tb : List (Addr × Str)} {Hc H1 : Hp} {Q : VK} {CF CS : Addr} {v : V} (e : LamX.ExtN Hc H1) (T : LamX.Tabs Tb H1) (k : ∀ t H', LamX.ExtN Hc H' → LamX.Tabs Tb H' → H' t = some (.tup [.str "forms", v]) → Q (.ref t) H') :
    QErr H1 (EMet CF CS Q) CS "index" v := fun dd H' s n hdd => .inr ⟨rfl, dd, v, rfl, hdd, fun t nt => k t _ ((e.trans (.of s)).trans (.of (same_upd nt))) ((T.ext s).ext (same_upd nt)) upd_same⟩
theorem cut_take {xs : List V} {n : Nat} (h : n ≤ xs.length) : cutV xs none (some (n : Int)) = xs.take n := by
  unfold cutV
  rw [HT.sIx_none, HT.sIx_nat, List.drop_zero, Nat.sub_zero, Nat.min_eq_left h]
theorem cut_drop {xs : List V} {n : Nat} (h : n ≤ xs.length) : cutV xs (some (n : Int)) none = xs.drop n := by
  unfold cutV
  rw [HT.sIx_none, HT.sIx_nat, Nat.min_eq_left h, List.take_of_length_le (by rw [List.length_drop]; omega)]
section
variable {P : Program} {w : World} {K : PySem.W.Frag} {mg : Str → Option Value} {base : Heap}
end
end KX
set_option Elab.async false
set_option linter.all false
set_option maxRecDepth 100000
set_option maxHeartbeats 4000000
set_option exponentiation.threshold 20000
namespace KX
open PySem PySem.Spec PyProof.Rows L2
theorem sz6 : 6 ≤ sizeLine := by decide
section
variable {P : Program} {w : World} {K : PySem.W.Frag} {mg : Str → Option Value} {base : Heap}
def LamT (PT : Addr) : List (Addr × Str) := [(PT, (envOfC "_law_refused_right" (defScope s_L_refused_right) 0 0 .none).qual ++ "<lambda>")]
def spRefused (K : PySem.W.Frag) (PT : Addr) : Sp := fun vs H Q _ => ∃ (a l : Addr) (xs : List V) (fs : List (Rat × Rat)), vs = [.ref a, .ref l] ∧ DrAt H a ∧ H l = some (.lst xs) ∧ l ≠ a ∧ Paired (FmV K H) xs fs ∧ (∀ f ∈ fs, SzF 200 f) ∧ fs ≠ [] ∧ fs.length ≤ 100 ∧ LamX.Tabs (LamT PT) H ∧
  ∀ H', (∀ b o, b ≠ a → H b = some o → (∀ ps, o ≠ .tbl ps) → H' b = some o) → LamX.Tabs (LamT PT) H' → Q (.bl true) H'
theorem form_dats {K : PySem.W.Frag} {H : Hp} : ∀ {xs : List V} {fs : List (Rat × Rat)}, Paired (FmV K H) xs fs → DatAll K H xs (fs.map fmD)
  | _, _, .nil => .nil
  | _, _, .cons r t => .cons (fm_dat r) (form_dats t)
theorem dats_take {K : PySem.W.Frag} {H : Hp} : ∀ {xs : List V} {ds : List PyData} (n : Nat), DatAll K H xs ds → DatAll K H (xs.take n) (ds.take n)
  | _, _, 0, _ => by rw [List.take_zero, List.take_zero]; exact .nil
  | _, _, n + 1, .nil => .nil
  | _, _, n + 1, .cons r t => .cons r (dats_take n t)
theorem dats_drop {K : PySem.W.Frag} {H : Hp} : ∀ {xs : List V} {ds : List PyData} (n : Nat), DatAll K H xs ds → DatAll K H (xs.drop n) (ds.drop n)
  | _, _, 0, h => h
  | _, _, n + 1, .nil => .nil
  | _, _, n + 1, .cons r t => dats_drop n t
theorem forms_of : ∀ {fs : List (Rat × Rat)}, (∀ f ∈ fs, SzF 240 f) → Paired FormOf (fs.map fmD) fs
  | [], _ => .nil
  | f :: fs, h => .cons (fmD_of (h f List.mem_cons_self)) (forms_of fun g hg => h g (List.mem_cons_of_mem _ hg))
/-- the case of the bad list -/
theorem bad_case {K : PySem.W.Frag} {CS : Addr} {H : Hp} {E : XK} {good : List (Rat × Rat) → Prop} {fs : List (Rat × Rat)} {n : Nat} {d : PyData} (hsz : ∀ f ∈ fs, SzF 200 f) (hn : n ≤ fs.length) (hl : fs.length ≤ 100) (hd : isFormD d = false) (k : QErr H E CS "index" (.int (n : Nat))) :
    FormsCase K CS H (.list (((fs.map fmD).take n ++ [d, .none]) ++ (fs.map fmD).drop n)) E good := by
  have hl1 : ((fs.map fmD).take n).length = n := by rw [List.length_take, List.length_map]; omega
  have hl2 : (fs.take n).length = n := by rw [List.length_take]; omega
  refine .inr (.inr ⟨_, d, fs.take n, rfl, ?_, ?_, hd, ?_, by rw [hl2]; exact k⟩)
  · rw [hl2, List.append_assoc, List.take_append_of_le_length (by omega), List.take_of_length_le (by omega), ← List.map_take]
    exact forms_of fun f hf => ⟨(hsz f (List.mem_of_mem_take hf)).1.mono (by decide), (hsz f (List.mem_of_mem_take hf)).2.mono (by decide)⟩
  · rw [hl2, List.append_assoc, List.getElem?_append_right (by omega), hl1, Nat.sub_self]
    rfl
  · simp only [List.length_append, List.length_take, List.length_drop, List.length_map, List.length_cons, List.length_nil]
    omega
theorem ok_L_refused_right (T : Txt K mg) (U : TxE P K mg) {c PT : Addr} (C : CodeAt K "_law_refused_right" "_law_refused_right" s_L_refused_right T.L_refused_right.f T.L_refused_right.fd c) (TB : LamX.TabB base mg c PT) :
    FnOk P w K mg base CX0 11 T.L_refused_right.f T.L_refused_right.fd ["_law_draws", "_law_forms"] (spRefused K PT) := by
  refine okC C sc_L_refused_right (fun vs H Q E h => ?_) (fun A outer s H vs Q E hr h => ?_)
  · obtain ⟨a, l, xs, fs, rfl, _⟩ := h
    rfl
  · obtain ⟨a, l, xs, fs, rfl, hD, hl, hla, hxs, hsz, hne, hlen, hT, k⟩ := h
    refine ⟨_, (pss_cons (ps_asg (pe_tup (pa_cons (pe_ix ix_list (pv 1) pe_int (fun _ _ => rfl)) (pa_cons (pe_call (ok_L_draw T) (hr.mono (by decide)) (by rfl) T.L_draw.g T.L_draw.F.kp T.L_draw.b .nil pass0 (pa_cons (pv 0) (pa_cons (pe_op op_add (pe_callB call_len_seq (by rfl) T.m_len PySem.boot_len (pa_cons (pv 1) pa_nil)) pe_int) pa_nil))) pa_nil))) (pg_tup rfl (pgs_cons (pg_name (i := 2) sc_L_refused_right.nd rfl (Or.inr rfl)) (pgs_cons (pg_name (i := 3) sc_L_refused_right.nd rfl (Or.inl rfl)) pgs_nil))))
      (pss_cons (ps_for PassesOwn.never rfl (pi_list (pe_call (ok_L_odd_forms T) (hr.mono (by decide)) (by rfl) T.L_odd_forms.g T.L_odd_forms.F.kp T.L_odd_forms.b .nil pass0 (pa_cons (pv 0) (pa_cons (pv 2) pa_nil)))) (pg_name (i := 4) sc_L_refused_right.nd rfl (Or.inr rfl)) (pss_cons (ps_set (i := 5) sc_L_refused_right.nd rfl (Or.inr rfl) (pe_op op_cat (pe_op op_cat (pe_slice sl_list (pv 1) po_none (po_some (pv 3))) (pe_lst (pa_cons (pv 4) (pa_cons pe_non pa_nil)))) (pe_slice sl_list (pv 1) (po_some (pv 3)) po_none)))
      (pss_cons (ps_set (i := 6) sc_L_refused_right.nd rfl (Or.inl rfl) (pe_lst (pa_cons (pe_met T U (by rfl) TB rfl hr (LamX.lamS_by (sc := defScope s_L_refused_right) (by decide +kernel)) (fun _ _ _ _ _ _ _ hr2 => (pe_call (ok_where_upto T U) (hr2.mono (by decide)) (by rfl) T.where_upto.g T.where_upto.F.kp T.where_upto.b .nil passLam (pa_cons (pv 4) (pa_cons pe_non pa_nil))))) pa_nil)))
      (pss_cons (ps_expr (pe_bm PySem.F.plainAttrs_list PySem.F.slot_list_append PySem.F.type_list_append mt_append (pv 6) (pa_cons (pe_met T U (by rfl) TB rfl hr (LamX.lamS_by (sc := defScope s_L_refused_right) (by decide +kernel)) (fun _ _ _ _ _ _ _ hr2 => (pe_call (ok_where_upto T U) (hr2.mono (by decide)) (by rfl) T.where_upto.g T.where_upto.F.kp T.where_upto.b .nil passLam (pa_cons (pv 2) (pa_cons (pv 4) pa_nil))))) pa_nil)))
      (pss_cons (ps_expr (pe_bm PySem.F.plainAttrs_list PySem.F.slot_list_append PySem.F.type_list_append mt_append (pv 6) (pa_cons (pe_met T U (by rfl) TB rfl hr (LamX.lamS_by (sc := defScope s_L_refused_right) (by decide +kernel)) (fun _ _ _ _ _ _ _ hr2 => (pe_call (ok_where_below T U) (hr2.mono (by decide)) (by rfl) T.where_below.g T.where_below.F.kp T.where_below.b .nil passLam (pa_cons (pv 4) (pa_cons pe_non pa_nil))))) pa_nil)))
      (pss_cons (ps_expr (pe_bm PySem.F.plainAttrs_list PySem.F.slot_list_append PySem.F.type_list_append mt_append (pv 6) (pa_cons (pe_met T U (by rfl) TB rfl hr (LamX.lamS_by (sc := defScope s_L_refused_right) (by decide +kernel)) (fun _ _ _ _ _ _ _ hr2 => (pe_call (ok_where_below T U) (hr2.mono (by decide)) (by rfl) T.where_below.g T.where_below.F.kp T.where_below.b .nil passLam (pa_cons (pv 2) (pa_cons (pv 4) pa_nil))))) pa_nil)))
      (pss_cons (ps_expr (pe_bm PySem.F.plainAttrs_list PySem.F.slot_list_append PySem.F.type_list_append mt_append (pv 6) (pa_cons (pe_met T U (by rfl) TB rfl hr (LamX.lamS_by (sc := defScope s_L_refused_right) (by decide +kernel)) (fun _ _ _ _ _ _ _ hr2 => (pe_call (ok_greatest_form T U) (hr2.mono (by decide)) (by rfl) T.greatest_form.g T.greatest_form.F.kp T.greatest_form.b .nil passLam (pa_cons (pv 5) pa_nil)))) pa_nil)))
      (pss_cons (ps_expr (pe_bm PySem.F.plainAttrs_list PySem.F.slot_list_append PySem.F.type_list_append mt_append (pv 6) (pa_cons (pe_met T U (by rfl) TB rfl hr (LamX.lamS_by (sc := defScope s_L_refused_right) (by decide +kernel)) (fun _ _ _ _ _ _ _ hr2 => (pe_call (ok_least_form T U) (hr2.mono (by decide)) (by rfl) T.least_form.g T.least_form.F.kp T.least_form.b .nil passLam (pa_cons (pv 5) pa_nil)))) pa_nil)))
      (pss_one (ps_if (pt_not (pt_val (pe_call (ok_L_same T) (hr.mono (by decide)) (by rfl) T.L_same.g T.L_same.F.kp T.L_same.b .nil pass0 (pa_cons (pv 6) (pa_cons (pe_op op_cat (pe_op op_rep (pe_lst (pa_cons (pe_tup (pa_cons pe_str (pa_cons (pv 4) pa_nil))) pa_nil)) pe_int) (pe_op op_rep (pe_lst (pa_cons (pe_tup (pa_cons pe_str (pa_cons (pv 3) pa_nil))) pa_nil)) pe_int)) pa_nil))))) (pss_one (ps_ret pe_bl)) pss_nil))))))))))
      (pss_cons (ps_for PassesOwn.never rfl (pi_tup (pe_tup (pa_cons pe_non (pa_cons pe_int (pa_cons pe_str (pa_cons pe_dnewK (pa_cons pe_bl (pa_cons (pe_lst pa_nil) (pa_cons (pe_tup pa_nil) pa_nil))))))))) (pg_name (i := 4) sc_L_refused_right.nd rfl (Or.inr rfl)) (pss_cons (ps_set (i := 6) sc_L_refused_right.nd rfl (Or.inl rfl) (pe_lst (pa_cons (pe_met T U (by rfl) TB rfl hr (LamX.lamS_by (sc := defScope s_L_refused_right) (by decide +kernel)) (fun _ _ _ _ _ _ _ hr2 => (pe_call (ok_greatest_form T U) (hr2.mono (by decide)) (by rfl) T.greatest_form.g T.greatest_form.F.kp T.greatest_form.b .nil passLam (pa_cons (pv 4) pa_nil)))) pa_nil)))
      (pss_cons (ps_expr (pe_bm PySem.F.plainAttrs_list PySem.F.slot_list_append PySem.F.type_list_append mt_append (pv 6) (pa_cons (pe_met T U (by rfl) TB rfl hr (LamX.lamS_by (sc := defScope s_L_refused_right) (by decide +kernel)) (fun _ _ _ _ _ _ _ hr2 => (pe_call (ok_least_form T U) (hr2.mono (by decide)) (by rfl) T.least_form.g T.least_form.F.kp T.least_form.b .nil passLam (pa_cons (pv 4) pa_nil)))) pa_nil)))
      (pss_one (ps_if (pt_cmpR (op_neD hr.units) (pv 6) (pe_op op_rep (pe_lst (pa_cons (pe_tup (pa_cons pe_str (pa_cons pe_int pa_nil))) pa_nil)) pe_int) (nomark _)) (pss_one (ps_ret pe_bl)) pss_nil)))))
      (pss_one (ps_ret pe_bl))))), ?_⟩
    have hxl := Paired.length hxs
    obtain ⟨x0, xs', rfl⟩ : ∃ x0 xs', xs = x0 :: xs' := by
      cases xs with
      | nil => cases fs with
        | nil => exact absurd rfl hne
        | cons f fs => cases hxl
      | cons x0 xs' => exact ⟨x0, xs', rfl⟩
    obtain ⟨f0, hf0, hx0⟩ := Paired.get hxs (i := 0) (x := x0) rfl
    have hxl' : xs'.length + 1 = fs.length := hxl
    have z0 := hsz f0 (List.mem_of_getElem? hf0)
    refine ⟨_, rfl, _, _, _, _, rfl, rfl, SqL.of hl, atI_nat (j := 0) rfl, _, rfl, _, rfl, _, _, rfl, .inl (SqL.of hl), _, _, rfl, rfl, a, _, rfl, hD, (by omega), (by omega), fun r H1 h0 h1 w1 _ => ⟨sz2, fun t nt => ?_⟩⟩
    obtain ⟨n, rfl⟩ := Int.eq_ofNat_of_zero_le h0
    have hn : n ≤ fs.length := by omega
    have u1 := same_upd (o := .tup [x0, V.int (n : Nat)]) nt
    have w2 : Dw a H (upd H1 t (.tup [x0, V.int (n : Nat)])) := w1.trans (Dw.of w1.dr u1)
    refine ⟨t, _, rfl, .inl (.inl upd_same), rfl, _, _, rfl, _, _, rfl, rfl, ?_⟩
    generalize upd H1 t (.tup [x0, V.int (n : Nat)]) = H2 at w2 ⊢
    refine ⟨_, rfl, _, rfl, a, x0, f0, rfl, w2.dr, hx0.keep (w2.tups hD), fun ro H3 ys ds w3 nro hr3 hds hyl hno hdep => ?_⟩
    have w03 := w2.trans w3
    have hds3 : DatAll K H3 ys ds := hds.k off_all
    have T3 := tabs_dw hD w03 hT
    have hl3 := w03.keep l _ hla hl
    have hxs3 : Paired (FmV K H3) (x0 :: xs') fs := Paired.imp (fun _ _ h => h.keep (w03.tups hD)) hxs
    have hx03 := hx0.keep (w03.tups hD)
    have fin : ∀ H', LamX.ExtN H3 H' → LamX.Tabs (LamT PT) H' → Q (.bl true) H' := fun H' e T => k H' (fun b o nb hb kb => e b o (w03.keep b o nb hb) kb) T
    clear k hds hxs hx0 hl hT
    refine ⟨ro, rfl, ⟨_, SqL.of hr3⟩, for_list (K := K) (a := ro) (xs := ys) (fun i σ H' => LamX.ExtN H3 H' ∧ LamX.Tabs (LamT PT) H' ∧ ∃ y4 y5 y6, σ = [some (.ref a), some (.ref l), some x0, some (.int (n : Nat)), y4, y5, y6])
      ⟨LamX.ExtN.refl _, T3, none, none, none, rfl⟩ (fun i σ H' _ ⟨e, _⟩ => SqL.of (extL e hr3)) ?_ ?_⟩
    · rintro i v σ H4 hi ⟨e4, T4, y4, y5, y6, rfl⟩
      obtain ⟨d, hdi, hd3⟩ := DatAll.get hds3 hi
      have hdm := List.mem_of_getElem? hdi
      have hno := hno d hdm
      have hdep := hdep d hdm
      have hl4 := extL e4 hl3
      -- the bad list
      have c1 := cut_take (xs := x0 :: xs') (n := n) (by omega)
      have c2 := cut_drop (xs := x0 :: xs') (n := n) (by omega)
      refine ⟨_, rfl, _, rfl, (n : Int), rfl, l, _, rfl, SqL.of hl4, fun p1 np1 => ?_⟩
      rw [c1]
      have s1 := same_upd (o := .lst ((x0 :: xs').take n)) np1
      refine ⟨_, rfl, sz2, fun p2 np2 => ?_⟩
      have s2 := same_upd (o := .lst [v, V.non]) np2
      refine ⟨p1, p2, _, _, rfl, rfl, s2 _ _ upd_same, upd_same, Nat.le_trans (show _ ≤ 1000 from by simp only [List.length_take, List.length_cons, List.length_nil]; omega) (by decide), fun p3 np3 => ?_⟩
      have s3 := same_upd (o := .lst ((x0 :: xs').take n ++ [v, V.non])) np3
      refine ⟨_, rfl, _, rfl, (n : Int), rfl, l, _, rfl, SqL.of ((s1.trans (s2.trans s3)) _ _ hl4), fun p4 np4 => ?_⟩
      rw [c2]
      have s4 := same_upd (o := .lst ((x0 :: xs').drop n)) np4
      refine ⟨p3, p4, _, _, rfl, rfl, s4 _ _ upd_same, upd_same, Nat.le_trans (show _ ≤ 1000 from by simp only [List.length_append, List.length_drop, List.length_take, List.length_cons, List.length_nil]; omega) (by decide), fun p5 np5 => ?_⟩
      have s5 := same_upd (o := .lst (((x0 :: xs').take n ++ [v, V.non]) ++ (x0 :: xs').drop n)) np5
      have s15 := s1.trans (s2.trans (s3.trans (s4.trans s5)))
      have hbl := upd_same (H := upd (upd (upd (upd H4 p1 (.lst ((x0 :: xs').take n))) p2 (.lst [v, V.non])) p3 (.lst ((x0 :: xs').take n ++ [v, V.non]))) p4 (.lst ((x0 :: xs').drop n))) (a := p5) (o := .lst (((x0 :: xs').take n ++ [v, V.non]) ++ (x0 :: xs').drop n))
      have e5 := e4.trans (.of s15)
      have T5 := T4.ext s15
      generalize upd (upd (upd (upd (upd H4 p1 (.lst ((x0 :: xs').take n))) p2 (.lst [v, V.non])) p3 (.lst ((x0 :: xs').take n ++ [v, V.non]))) p4 (.lst ((x0 :: xs').drop n))) p5 (.lst (((x0 :: xs').take n ++ [v, V.non]) ++ (x0 :: xs').drop n)) = G at s15 hbl e5 T5 ⊢
      have hdG := DatN e5 _ _ hd3
      have hbadG : Dat K G (.ref p5) (.list (((fs.map fmD).take n ++ [d, .none]) ++ (fs.map fmD).drop n)) := by
        have hh := DatAllN e5 _ _ (form_dats hxs3)
        exact .lst hbl (DatAll.append (DatAll.append (dats_take n hh) (.cons hdG (.cons .non .nil))) (dats_drop n hh))
      have hx0G := hx03.keep (tupsN e5)
      have F0 : FormOf (fmD f0) f0 := fmD_of ⟨z0.1.mono (by decide), z0.2.mono (by decide)⟩
      refine ⟨T5, fun H' x T' => ⟨_, rfl, v, .non, d, .none, rfl, DatN ((LamX.ExtN.refl G).trans x) _ _ hdG, .non, .inr (.inl ⟨hno, qerr_f x T' fun t1 K1 x1 TT1 h1 => ?_⟩)⟩⟩
      refine ⟨sz1, fun r1 nr1 => ?_⟩
      have N1 : NewN G r1 := newN_of x1 nr1
      have sr := same_upd (o := .lst [V.ref t1]) nr1
      have E1 : LamX.ExtN G (upd K1 r1 (.lst [V.ref t1])) := x1.trans (.of sr)
      have Q1 : LamX.Tabs (LamT PT) (upd K1 r1 (.lst [V.ref t1])) := TT1.ext sr
      have R1 : upd K1 r1 (.lst [V.ref t1]) r1 = some (.lst [V.ref t1]) := upd_same
      have a1_1 := sr _ _ h1
      generalize upd K1 r1 (.lst [V.ref t1]) = G1 at E1 Q1 R1 a1_1 ⊢
      refine ⟨_, rfl, .inl ⟨rfl, _, SqL.of R1⟩, Q1, fun H' x T' => ⟨_, rfl, _, rfl, x0, v, fmD f0, d, rfl, fm_dat (hx0G.keep (tupsN (E1.trans x))), DatN (E1.trans x) _ _ hdG, .inr (.inr ⟨f0, F0, hno, qerr_f x T' fun t2 K2 x2 TT2 h2 => ?_⟩)⟩⟩
      have r2 := extL x2 R1
      refine ⟨r1, _, _, rfl, rfl, r2, small1000 (by show 1 ≤ 1000; decide), ?_⟩
      have E2 : LamX.ExtN G (upd K2 r1 (.lst [V.ref t1, V.ref t2])) := ext_app (E1.trans x2) N1
      have Q2 : LamX.Tabs (LamT PT) (upd K2 r1 (.lst [V.ref t1, V.ref t2])) := tabs_lst TT2 r2
      have R2 : upd K2 r1 (.lst [V.ref t1, V.ref t2]) r1 = some (.lst [V.ref t1, V.ref t2]) := upd_same
      have a2_2 : upd K2 r1 (.lst [V.ref t1, V.ref t2]) t2 = some (.tup [V.str "form", v]) := tup_app r2 h2
      have a2_1 : upd K2 r1 (.lst [V.ref t1, V.ref t2]) t1 = some (.tup [V.str "form", v]) := tup_app r2 (extT x2 a1_1)
      show _
      clear a1_1 R1 Q1 r2 h2
      generalize hG : upd K2 r1 (.lst [V.ref t1, V.ref t2]) = G2 at E2 Q2 R2 a2_1 a2_2
      rw [show ([V.ref t1] ++ [V.ref t2] : List V) = [V.ref t1, V.ref t2] from rfl, hG]
      clear hG x2 TT2
      refine ⟨_, rfl, .inl ⟨rfl, _, SqL.of R2⟩, Q2, fun H' x T' => ⟨_, rfl, v, .non, d, .none, rfl, DatN (E2.trans x) _ _ hdG, .non, .inr (.inl ⟨hno, qerr_f x T' fun t3 K3 x3 TT3 h3 => ?_⟩)⟩⟩
      have r3 := extL x3 R2
      refine ⟨r1, _, _, rfl, rfl, r3, small1000 (by show 2 ≤ 1000; decide), ?_⟩
      have E3 : LamX.ExtN G (upd K3 r1 (.lst [V.ref t1, V.ref t2, V.ref t3])) := ext_app (E2.trans x3) N1
      have Q3 : LamX.Tabs (LamT PT) (upd K3 r1 (.lst [V.ref t1, V.ref t2, V.ref t3])) := tabs_lst TT3 r3
      have R3 : upd K3 r1 (.lst [V.ref t1, V.ref t2, V.ref t3]) r1 = some (.lst [V.ref t1, V.ref t2, V.ref t3]) := upd_same
      have a3_3 : upd K3 r1 (.lst [V.ref t1, V.ref t2, V.ref t3]) t3 = some (.tup [V.str "form", v]) := tup_app r3 h3
      have a3_1 : upd K3 r1 (.lst [V.ref t1, V.ref t2, V.ref t3]) t1 = some (.tup [V.str "form", v]) := tup_app r3 (extT x3 a2_1)
      have a3_2 : upd K3 r1 (.lst [V.ref t1, V.ref t2, V.ref t3]) t2 = some (.tup [V.str "form", v]) := tup_app r3 (extT x3 a2_2)
      show _
      clear a2_1 a2_2 R2 Q2 r3 h3
      generalize hG : upd K3 r1 (.lst [V.ref t1, V.ref t2, V.ref t3]) = G3 at E3 Q3 R3 a3_1 a3_2 a3_3
      rw [show ([V.ref t1, V.ref t2] ++ [V.ref t3] : List V) = [V.ref t1, V.ref t2, V.ref t3] from rfl, hG]
      clear hG x3 TT3
      refine ⟨_, rfl, .inl ⟨rfl, _, SqL.of R3⟩, Q3, fun H' x T' => ⟨_, rfl, _, rfl, x0, v, fmD f0, d, rfl, fm_dat (hx0G.keep (tupsN (E3.trans x))), DatN (E3.trans x) _ _ hdG, .inr (.inr ⟨f0, F0, hno, qerr_f x T' fun t4 K4 x4 TT4 h4 => ?_⟩)⟩⟩
      have r4 := extL x4 R3
      refine ⟨r1, _, _, rfl, rfl, r4, small1000 (by show 3 ≤ 1000; decide), ?_⟩
      have E4 : LamX.ExtN G (upd K4 r1 (.lst [V.ref t1, V.ref t2, V.ref t3, V.ref t4])) := ext_app (E3.trans x4) N1
      have Q4 : LamX.Tabs (LamT PT) (upd K4 r1 (.lst [V.ref t1, V.ref t2, V.ref t3, V.ref t4])) := tabs_lst TT4 r4
      have R4 : upd K4 r1 (.lst [V.ref t1, V.ref t2, V.ref t3, V.ref t4]) r1 = some (.lst [V.ref t1, V.ref t2, V.ref t3, V.ref t4]) := upd_same
      have a4_4 : upd K4 r1 (.lst [V.ref t1, V.ref t2, V.ref t3, V.ref t4]) t4 = some (.tup [V.str "form", v]) := tup_app r4 h4
      have a4_1 : upd K4 r1 (.lst [V.ref t1, V.ref t2, V.ref t3, V.ref t4]) t1 = some (.tup [V.str "form", v]) := tup_app r4 (extT x4 a3_1)
      have a4_2 : upd K4 r1 (.lst [V.ref t1, V.ref t2, V.ref t3, V.ref t4]) t2 = some (.tup [V.str "form", v]) := tup_app r4 (extT x4 a3_2)
      have a4_3 : upd K4 r1 (.lst [V.ref t1, V.ref t2, V.ref t3, V.ref t4]) t3 = some (.tup [V.str "form", v]) := tup_app r4 (extT x4 a3_3)
      show _
      clear a3_1 a3_2 a3_3 R3 Q3 r4 h4
      generalize hG : upd K4 r1 (.lst [V.ref t1, V.ref t2, V.ref t3, V.ref t4]) = G4 at E4 Q4 R4 a4_1 a4_2 a4_3 a4_4
      rw [show ([V.ref t1, V.ref t2, V.ref t3] ++ [V.ref t4] : List V) = [V.ref t1, V.ref t2, V.ref t3, V.ref t4] from rfl, hG]
      clear hG x4 TT4
      refine ⟨_, rfl, .inl ⟨rfl, _, SqL.of R4⟩, Q4, fun H' x T' => ⟨_, rfl, .ref p5, _, rfl, DatN (E4.trans x) _ _ hbadG, bad_case hsz hn hlen hno (qerr_s x T' fun t5 K5 x5 TT5 h5 => ?_)⟩⟩
      have r5 := extL x5 R4
      refine ⟨r1, _, _, rfl, rfl, r5, small1000 (by show 4 ≤ 1000; decide), ?_⟩
      have E5 : LamX.ExtN G (upd K5 r1 (.lst [V.ref t1, V.ref t2, V.ref t3, V.ref t4, V.ref t5])) := ext_app (E4.trans x5) N1
      have Q5 : LamX.Tabs (LamT PT) (upd K5 r1 (.lst [V.ref t1, V.ref t2, V.ref t3, V.ref t4, V.ref t5])) := tabs_lst TT5 r5
      have R5 : upd K5 r1 (.lst [V.ref t1, V.ref t2, V.ref t3, V.ref t4, V.ref t5]) r1 = some (.lst [V.ref t1, V.ref t2, V.ref t3, V.ref t4, V.ref t5]) := upd_same
      have a5_5 : upd K5 r1 (.lst [V.ref t1, V.ref t2, V.ref t3, V.ref t4, V.ref t5]) t5 = some (.tup [V.str "forms", V.int (n : Nat)]) := tup_app r5 h5
      have a5_1 : upd K5 r1 (.lst [V.ref t1, V.ref t2, V.ref t3, V.ref t4, V.ref t5]) t1 = some (.tup [V.str "form", v]) := tup_app r5 (extT x5 a4_1)
      have a5_2 : upd K5 r1 (.lst [V.ref t1, V.ref t2, V.ref t3, V.ref t4, V.ref t5]) t2 = some (.tup [V.str "form", v]) := tup_app r5 (extT x5 a4_2)
      have a5_3 : upd K5 r1 (.lst [V.ref t1, V.ref t2, V.ref t3, V.ref t4, V.ref t5]) t3 = some (.tup [V.str "form", v]) := tup_app r5 (extT x5 a4_3)
      have a5_4 : upd K5 r1 (.lst [V.ref t1, V.ref t2, V.ref t3, V.ref t4, V.ref t5]) t4 = some (.tup [V.str "form", v]) := tup_app r5 (extT x5 a4_4)
      show _
      clear a4_1 a4_2 a4_3 a4_4 R4 Q4 r5 h5
      generalize hG : upd K5 r1 (.lst [V.ref t1, V.ref t2, V.ref t3, V.ref t4, V.ref t5]) = G5 at E5 Q5 R5 a5_1 a5_2 a5_3 a5_4 a5_5
      rw [show ([V.ref t1, V.ref t2, V.ref t3, V.ref t4] ++ [V.ref t5] : List V) = [V.ref t1, V.ref t2, V.ref t3, V.ref t4, V.ref t5] from rfl, hG]
      clear hG x5 TT5
      refine ⟨_, rfl, .inl ⟨rfl, _, SqL.of R5⟩, Q5, fun H' x T' => ⟨_, rfl, .ref p5, _, rfl, DatN (E5.trans x) _ _ hbadG, bad_case hsz hn hlen hno (qerr_s x T' fun t6 K6 x6 TT6 h6 => ?_)⟩⟩
      have r6 := extL x6 R5
      refine ⟨r1, _, _, rfl, rfl, r6, small1000 (by show 5 ≤ 1000; decide), ?_⟩
      have E6 : LamX.ExtN G (upd K6 r1 (.lst [V.ref t1, V.ref t2, V.ref t3, V.ref t4, V.ref t5, V.ref t6])) := ext_app (E5.trans x6) N1
      have Q6 : LamX.Tabs (LamT PT) (upd K6 r1 (.lst [V.ref t1, V.ref t2, V.ref t3, V.ref t4, V.ref t5, V.ref t6])) := tabs_lst TT6 r6
      have R6 : upd K6 r1 (.lst [V.ref t1, V.ref t2, V.ref t3, V.ref t4, V.ref t5, V.ref t6]) r1 = some (.lst [V.ref t1, V.ref t2, V.ref t3, V.ref t4, V.ref t5, V.ref t6]) := upd_same
      have a6_6 : upd K6 r1 (.lst [V.ref t1, V.ref t2, V.ref t3, V.ref t4, V.ref t5, V.ref t6]) t6 = some (.tup [V.str "forms", V.int (n : Nat)]) := tup_app r6 h6
      have a6_1 : upd K6 r1 (.lst [V.ref t1, V.ref t2, V.ref t3, V.ref t4, V.ref t5, V.ref t6]) t1 = some (.tup [V.str "form", v]) := tup_app r6 (extT x6 a5_1)
      have a6_2 : upd K6 r1 (.lst [V.ref t1, V.ref t2, V.ref t3, V.ref t4, V.ref t5, V.ref t6]) t2 = some (.tup [V.str "form", v]) := tup_app r6 (extT x6 a5_2)
      have a6_3 : upd K6 r1 (.lst [V.ref t1, V.ref t2, V.ref t3, V.ref t4, V.ref t5, V.ref t6]) t3 = some (.tup [V.str "form", v]) := tup_app r6 (extT x6 a5_3)
      have a6_4 : upd K6 r1 (.lst [V.ref t1, V.ref t2, V.ref t3, V.ref t4, V.ref t5, V.ref t6]) t4 = some (.tup [V.str "form", v]) := tup_app r6 (extT x6 a5_4)
      have a6_5 : upd K6 r1 (.lst [V.ref t1, V.ref t2, V.ref t3, V.ref t4, V.ref t5, V.ref t6]) t5 = some (.tup [V.str "forms", V.int (n : Nat)]) := tup_app r6 (extT x6 a5_5)
      show _
      clear a5_1 a5_2 a5_3 a5_4 a5_5 R5 Q5 r6 h6
      generalize hG : upd K6 r1 (.lst [V.ref t1, V.ref t2, V.ref t3, V.ref t4, V.ref t5, V.ref t6]) = G6 at E6 Q6 R6 a6_1 a6_2 a6_3 a6_4 a6_5 a6_6
      rw [show ([V.ref t1, V.ref t2, V.ref t3, V.ref t4, V.ref t5] ++ [V.ref t6] : List V) = [V.ref t1, V.ref t2, V.ref t3, V.ref t4, V.ref t5, V.ref t6] from rfl, hG]
      clear hG x6 TT6
      have hdE := DatN E6 _ _ hdG
      refine ⟨_, rfl, _, rfl, sz2, fun u1 m1 => ⟨sz1, fun u2 m2 => ⟨u2, 4, _, rfl, rfl, upd_same, by decide, by decide, by show 4 ≤ sizeLine; decide, fun u3 m3 => ⟨_, rfl, sz2, fun u4 m4 => ⟨sz1, fun u5 m5 => ⟨u5, 2, _, rfl, rfl, upd_same, by decide, by decide, by show 2 ≤ sizeLine; decide, fun u6 m6 => ?_⟩⟩⟩⟩⟩⟩
      have b1 := same_upd (o := .tup [V.str "form", v]) m1
      have b2 := same_upd (o := .lst [V.ref u1]) m2
      have b3 := same_upd (o := .lst (List.replicate (Int.toNat 4) [V.ref u1]).flatten) m3
      have b4 := same_upd (o := .tup [V.str "forms", V.int (n : Nat)]) m4
      have b5 := same_upd (o := .lst [V.ref u4]) m5
      have b6 := same_upd (o := .lst (List.replicate (Int.toNat 2) [V.ref u4]).flatten) m6
      refine ⟨u3, u6, _, _, rfl, rfl, (b4.trans (b5.trans b6)) _ _ upd_same, upd_same, (by show 6 ≤ sizeLine; decide), fun u7 m7 => ?_⟩
      have b7 := same_upd (o := .lst ((List.replicate (Int.toNat 4) [V.ref u1]).flatten ++ (List.replicate (Int.toNat 2) [V.ref u4]).flatten)) m7
      have b27 := b2.trans (b3.trans (b4.trans (b5.trans (b6.trans b7))))
      have b57 := b5.trans (b6.trans b7)
      have b17 := b1.trans b27
      have g1 := b27 _ _ (upd_same (H := G6) (a := u1) (o := .tup [V.str "form", v]))
      have g4 := b57 _ _ (upd_same (H := upd (upd (upd G6 u1 (.tup [V.str "form", v])) u2 (.lst [V.ref u1])) u3 (.lst (List.replicate (Int.toNat 4) [V.ref u1]).flatten)) (a := u4) (o := .tup [V.str "forms", V.int (n : Nat)]))
      have g7 := upd_same (H := upd (upd (upd (upd (upd (upd G6 u1 (.tup [V.str "form", v])) u2 (.lst [V.ref u1])) u3 (.lst (List.replicate (Int.toNat 4) [V.ref u1]).flatten)) u4 (.tup [V.str "forms", V.int (n : Nat)])) u5 (.lst [V.ref u4])) u6 (.lst (List.replicate (Int.toNat 2) [V.ref u4]).flatten)) (a := u7) (o := .lst ((List.replicate (Int.toNat 4) [V.ref u1]).flatten ++ (List.replicate (Int.toNat 2) [V.ref u4]).flatten))
      have dv := hdE.k b17
      have pf : ∀ {H : Hp} {t : Addr}, H t = some (.tup [V.str "form", v]) → Dat K H v d → Dat K H (.ref t) (.tuple [.str "form", d]) := fun h hv => datT h (.cons (.str _) (.cons hv .nil))
      have pi : ∀ {H : Hp} {t : Addr}, H t = some (.tup [V.str "forms", V.int (n : Nat)]) → Dat K H (.ref t) (.tuple [.str "forms", .int (n : Nat)]) := fun h => datT h (.cons (.str _) (.cons (.int _) .nil))
      refine ⟨.ref r1, .ref u7, .list [.tuple [.str "form", d], .tuple [.str "form", d], .tuple [.str "form", d], .tuple [.str "form", d], .tuple [.str "forms", .int (n : Nat)], .tuple [.str "forms", .int (n : Nat)]], rfl,
        .lst (b17 _ _ R6) (.cons (pf (b17 _ _ a6_1) dv) (.cons (pf (b17 _ _ a6_2) dv) (.cons (pf (b17 _ _ a6_3) dv) (.cons (pf (b17 _ _ a6_4) dv) (.cons (pi (b17 _ _ a6_5)) (.cons (pi (b17 _ _ a6_6)) .nil)))))),
        .lst g7 (.cons (pf g1 dv) (.cons (pf g1 dv) (.cons (pf g1 dv) (.cons (pf g1 dv) (.cons (pi g4) (.cons (pi g4) .nil)))))), ?_, fun H' s' => ⟨_, rfl, iteF ?_⟩⟩
      · have q1 : Dep 8 (.tuple [.str "form", d]) := dep_seq rfl (by show 2 ≤ 999; decide) (dep_cons (dep_flat rfl) (dep_cons hdep dep_nil))
        have q2 : Dep 8 (.tuple [.str "forms", .int (n : Nat)]) := dep_seq rfl (by show 2 ≤ 999; decide) (dep_cons (dep_flat rfl) (dep_cons (dep_flat rfl) dep_nil))
        exact dep_seq rfl (by show 6 ≤ 999; decide) (dep_cons q1 (dep_cons q1 (dep_cons q1 (dep_cons q1 (dep_cons q2 (dep_cons q2 dep_nil))))))
      · exact ⟨(e5.trans E6).trans (.of (b17.trans s')), (Q6.ext b17).ext s', _, _, _, rfl⟩
    · rintro σ H4 ⟨e4, T4, y4, y5, y6, rfl⟩
      clear hds3 hno hdep hr3
      refine fun p1 n1 => ?_
      refine ⟨Nat.zero_le _, fun p2 n2 => ?_⟩
      refine ⟨Nat.zero_le _, fun p3 n3 => ?_⟩
      refine ⟨sz7, fun p4 n4 => ?_⟩
      have s1 := same_upd (o := .dK []) n1
      have s2 := same_upd (o := .lst []) n2
      have s3 := same_upd (o := .tup []) n3
      have s4 := same_upd (o := .tup [V.non, V.int 5, V.str "ab", V.ref p1, V.bl true, V.ref p2, V.ref p3]) n4
      have s14 := s1.trans (s2.trans (s3.trans s4))
      have e5 := e4.trans (.of s14)
      have T5 := T4.ext s14
      have k1 := (s2.trans (s3.trans s4)) _ _ (upd_same (H := H4) (a := p1) (o := .dK []))
      have k2 := (s3.trans s4) _ _ (upd_same (H := upd H4 p1 (.dK [])) (a := p2) (o := .lst []))
      have k3 := s4 _ _ (upd_same (H := upd (upd H4 p1 (.dK [])) p2 (.lst [])) (a := p3) (o := .tup []))
      have k4 := upd_same (H := upd (upd (upd H4 p1 (.dK [])) p2 (.lst [])) p3 (.tup [])) (a := p4) (o := .tup [V.non, V.int 5, V.str "ab", V.ref p1, V.bl true, V.ref p2, V.ref p3])
      generalize upd (upd (upd (upd H4 p1 (.dK [])) p2 (.lst [])) p3 (.tup [])) p4 (.tup [V.non, V.int 5, V.str "ab", V.ref p1, V.bl true, V.ref p2, V.ref p3]) = H5 at s14 e5 T5 k1 k2 k3 k4 ⊢
      have hall : DatAll K H5 [V.non, V.int 5, V.str "ab", V.ref p1, V.bl true, V.ref p2, V.ref p3] [.none, .int 5, .str "ab", .dict [], .bool true, .list [], .tuple []] :=
        .cons .non (.cons (.int _) (.cons (.str _) (.cons (.dct k1) (.cons (.bl _) (.cons (.lst k2 .nil) (.cons (datT k3 .nil) .nil))))))
      have hseq : ∀ d ∈ ([.none, .int 5, .str "ab", .dict [], .bool true, .list [], .tuple []] : List PyData), seqD d = none ∨ seqD d = some [] := by
        intro d hd
        simp only [List.mem_cons, List.not_mem_nil, or_false] at hd
        rcases hd with rfl | rfl | rfl | rfl | rfl | rfl | rfl
        · exact .inl rfl
        · exact .inl rfl
        · exact .inl rfl
        · exact .inl rfl
        · exact .inl rfl
        · exact .inr rfl
        · exact .inr rfl
      refine ⟨p4, rfl, ⟨_, sqT_up k4⟩, for_tup (K := K) (a := p4) (xs := [V.non, V.int 5, V.str "ab", V.ref p1, V.bl true, V.ref p2, V.ref p3]) (fun i σ H' => LamX.ExtN H5 H' ∧ LamX.Tabs (LamT PT) H' ∧ ∃ y4 y5 y6, σ = [some (.ref a), some (.ref l), some x0, some (.int (n : Nat)), y4, y5, y6])
        ⟨LamX.ExtN.refl _, T5, _, _, _, rfl⟩ (fun i σ H' _ ⟨e, _⟩ => sqT_up (extT e k4)) ?_ ?_⟩
      · rintro i v σ G hi ⟨eG, TG, y4, y5, y6, rfl⟩
        obtain ⟨d, hdi, hd5⟩ := DatAll.get hall hi
        have hsq := hseq d (List.mem_of_getElem? hdi)
        have hdG := DatN eG _ _ hd5
        refine ⟨TG, fun H' x T' => ⟨_, rfl, v, d, rfl, DatN x _ _ hdG, .inr (.inl ⟨hsq, qerr_s x T' fun t1 K1 x1 TT1 h1 => ?_⟩)⟩⟩
        refine ⟨sz1, fun r1 nr1 => ?_⟩
        have N1 : NewN G r1 := newN_of x1 nr1
        have sr := same_upd (o := .lst [V.ref t1]) nr1
        have E1 : LamX.ExtN G (upd K1 r1 (.lst [V.ref t1])) := x1.trans (.of sr)
        have Q1 : LamX.Tabs (LamT PT) (upd K1 r1 (.lst [V.ref t1])) := TT1.ext sr
        have R1 : upd K1 r1 (.lst [V.ref t1]) r1 = some (.lst [V.ref t1]) := upd_same
        have a1_1 := sr _ _ h1
        generalize upd K1 r1 (.lst [V.ref t1]) = G1 at E1 Q1 R1 a1_1 ⊢
        refine ⟨_, rfl, .inl ⟨rfl, _, SqL.of R1⟩, Q1, fun H' x T' => ⟨_, rfl, v, d, rfl, DatN (E1.trans x) _ _ hdG, .inr (.inl ⟨hsq, qerr_s x T' fun t2 K2 x2 TT2 h2 => ?_⟩)⟩⟩
        have r2 := extL x2 R1
        refine ⟨r1, _, _, rfl, rfl, r2, small1000 (by show 1 ≤ 1000; decide), ?_⟩
        have E2 : LamX.ExtN G (upd K2 r1 (.lst [V.ref t1, V.ref t2])) := ext_app (E1.trans x2) N1
        have Q2 : LamX.Tabs (LamT PT) (upd K2 r1 (.lst [V.ref t1, V.ref t2])) := tabs_lst TT2 r2
        have R2 : upd K2 r1 (.lst [V.ref t1, V.ref t2]) r1 = some (.lst [V.ref t1, V.ref t2]) := upd_same
        have a2_2 : upd K2 r1 (.lst [V.ref t1, V.ref t2]) t2 = some (.tup [V.str "forms", V.int 0]) := tup_app r2 h2
        have a2_1 : upd K2 r1 (.lst [V.ref t1, V.ref t2]) t1 = some (.tup [V.str "forms", V.int 0]) := tup_app r2 (extT x2 a1_1)
        rw [show ([V.ref t1] ++ [V.ref t2] : List V) = [V.ref t1, V.ref t2] from rfl]
        generalize upd K2 r1 (.lst [V.ref t1, V.ref t2]) = G2 at E2 Q2 R2 a2_1 a2_2 ⊢
        refine ⟨_, rfl, sz2, fun u1 m1 => ⟨sz1, fun u2 m2 => ⟨u2, 2, _, rfl, rfl, upd_same, by decide, by decide, by show 2 ≤ sizeLine; decide, fun u3 m3 => ?_⟩⟩⟩
        have b1 := same_upd (o := .tup [V.str "forms", V.int 0]) m1
        have b2 := same_upd (o := .lst [V.ref u1]) m2
        have b3 := same_upd (o := .lst (List.replicate (Int.toNat 2) [V.ref u1]).flatten) m3
        have b13 := b1.trans (b2.trans b3)
        have g1 := (b2.trans b3) _ _ (upd_same (H := G2) (a := u1) (o := .tup [V.str "forms", V.int 0]))
        have g3 := upd_same (H := upd (upd G2 u1 (.tup [V.str "forms", V.int 0])) u2 (.lst [V.ref u1])) (a := u3) (o := .lst (List.replicate (Int.toNat 2) [V.ref u1]).flatten)
        have pi : ∀ {H : Hp} {t : Addr}, H t = some (.tup [V.str "forms", V.int 0]) → Dp K H (.ref t) (.tuple [.str "forms", .int 0]) := fun h => .tup (sqT_up h) (.cons (.str _) (.cons (.int _) .nil))
        refine ⟨.list [.tuple [.str "forms", .int 0], .tuple [.str "forms", .int 0]], .list [.tuple [.str "forms", .int 0], .tuple [.str "forms", .int 0]], .lst (SqL.of (b13 _ _ R2)) (.cons (pi (b13 _ _ a2_1)) (.cons (pi (b13 _ _ a2_2)) .nil)), .lst (SqL.of g3) (.cons (pi g1) (.cons (pi g1) .nil)), by decide +kernel, by decide +kernel, ?_⟩
        rw [show PyData.eqv (.list [.tuple [.str "forms", .int 0], .tuple [.str "forms", .int 0]]) (.list [.tuple [.str "forms", .int 0], .tuple [.str "forms", .int 0]]) = true from by decide +kernel]
        exact ⟨_, rfl, iteF ⟨(eG.trans E2).trans (.of b13), Q2.ext b13, _, _, _, rfl⟩⟩
      · rintro σ G ⟨eG, TG, y4, y5, y6, rfl⟩
        exact fin _ (e5.trans eG) TG
end
end KX
set_option Elab.async false
set_option linter.all false
namespace KM
def st (k : Nat) : Rat := if k = 0 then 0 else mkRat (2 * k - 1) 2
def dueP (q : Rat) (k : Nat) : Piece := ⟨st k, decide (k = 0), if k = 39 then none else some (st (k + 1)), ff q k⟩
theorem st_two {k : Nat} (h : k ≠ 0) : 2 * st k = 2 * (k : Rat) - 1 := by
  unfold st
  rw [if_neg h, Rat.mkRat_eq_div]
  have : ((2 * (k : Int) - 1 : Int) : Rat) = 2 * (k : Rat) - 1 := by
    rw [Rat.intCast_sub, Rat.intCast_mul]
    rfl
  rw [this]
  grind
theorem natLe {j k : Nat} (h : j < k) : (1 : Rat) ≤ (k : Rat) - j := by
  have : ((j + 1 : Nat) : Rat) ≤ (k : Rat) := Rat.natCast_le_natCast.mpr h
  rw [Rat.natCast_add] at this
  have e : ((1 : Nat) : Rat) = 1 := rfl
  grind
theorem ff_top {q : Rat} (hq : 0 < q) {L : List Fm} (hL : ∀ f, f ∈ L ↔ ∃ k, k < 40 ∧ f = ff q k) {k : Nat} (hk : k < 40) : Top L (st k) (ff q k) := by
  refine ⟨(hL _).mpr ⟨k, hk, rfl⟩, fun f hf => ?_⟩
  obtain ⟨j, hj, rfl⟩ := (hL f).mp hf
  have slope : j ≤ k → (ff q j).2 ≤ (ff q k).2 := fun h => by
    have h1 : (j : Rat) ≤ k := Rat.natCast_le_natCast.mpr h
    have h2 := mul_le' h1 (Rat.le_of_lt hq)
    show 2 * (j : Rat) * q ≤ 2 * (k : Rat) * q
    grind
  have d : val (ff q k) (st k) - val (ff q j) (st k) = q * (((k : Rat) - j) * (2 * st k - ((k : Rat) + j))) := by
    rw [ff_val, ff_val]
    grind
  by_cases hk0 : k = 0
  · subst hk0
    have s0 : st 0 = 0 := rfl
    rw [s0] at d ⊢
    by_cases hj0 : j = 0
    · subst hj0
      exact .inr ⟨rfl, Rat.le_refl⟩
    · left
      have hj1 : (0 : Rat) < j := Rat.natCast_lt_natCast.mpr (Nat.pos_of_ne_zero hj0)
      have := mul_pos' hq (mul_pos' hj1 hj1)
      have z : ((0 : Nat) : Rat) = 0 := rfl
      grind
  · rw [st_two hk0] at d
    rcases Nat.lt_trichotomy j k with h | h | h
    · have h1 := natLe h
      have h2 : 0 ≤ ((k : Rat) - j) * ((k : Rat) - j - 1) := Rat.mul_nonneg (by grind) (by grind)
      have h3 := Rat.mul_nonneg (Rat.le_of_lt hq) h2
      have h4 : val (ff q j) (st k) ≤ val (ff q k) (st k) := by grind
      by_cases e : val (ff q j) (st k) = val (ff q k) (st k)
      · exact .inr ⟨e, slope (Nat.le_of_lt h)⟩
      · left
        grind
    · subst h
      exact .inr ⟨rfl, Rat.le_refl⟩
    · left
      have h1 := natLe h
      have h2 : 0 < ((j : Rat) - k) * ((j : Rat) - k + 1) := mul_pos' (by grind) (by grind)
      have h3 := mul_pos' hq h2
      grind
theorem ff_root {q : Rat} (hq : 0 < q) {j k : Nat} (h : k < j) : rootUp (ff q k) (ff q j) = ((j : Rat) + k) / 2 := by
  have h1 := natLe h
  have h2 := mul_pos' hq (show (0 : Rat) < (j : Rat) - k by grind)
  unfold rootUp
  show (-((k : Rat) * k * q) - -((j : Rat) * j * q)) / (2 * j * q - 2 * k * q) = _
  have h3 : (2 * (j : Rat) * q - 2 * k * q) ≠ 0 := by grind
  have e : (-((k : Rat) * k * q) - -((j : Rat) * j * q)) = ((j : Rat) + k) / 2 * (2 * j * q - 2 * k * q) := by grind
  rw [e]
  grind
theorem ff_slope {q : Rat} (hq : 0 < q) {j k : Nat} : (ff q k).2 < (ff q j).2 ↔ k < j := by
  show 2 * (k : Rat) * q < 2 * (j : Rat) * q ↔ _
  constructor
  · intro h
    by_cases z : k < j
    · exact z
    · have h1 : (j : Rat) ≤ k := Rat.natCast_le_natCast.mpr (by omega)
      have h2 := mul_le' h1 (Rat.le_of_lt hq)
      grind
  · intro h
    have h1 := natLe h
    have h2 := mul_pos' hq (show (0 : Rat) < (j : Rat) - k by grind)
    grind
theorem ff_next {q : Rat} (hq : 0 < q) {L : List Fm} (hL : ∀ f, f ∈ L ↔ ∃ k, k < 40 ∧ f = ff q k) {k : Nat} (hk : k < 40) : nextEnd L (ff q k) = if k = 39 then none else some (st (k + 1)) := by
  by_cases h : k = 39
  · rw [if_pos h]
    refine nextEnd_is_none fun f hf => ?_
    obtain ⟨j, hj, rfl⟩ := (hL f).mp hf
    have := (ff_slope hq (j := j) (k := k))
    by_cases z : (ff q j).2 ≤ (ff q k).2
    · exact z
    · have : (ff q k).2 < (ff q j).2 := by grind
      have := (ff_slope hq).mp this
      omega
  · rw [if_neg h]
    have e2 := st_two (k := k + 1) (by omega)
    have c1 : ((k + 1 : Nat) : Rat) = (k : Rat) + 1 := by
      rw [Rat.natCast_add]
      rfl
    refine nextEnd_is ⟨ff q (k + 1), (hL _).mpr ⟨k + 1, by omega, rfl⟩, (ff_slope hq).mpr (Nat.lt_succ_self k), ?_⟩ fun f hf hs => ?_
    · rw [ff_root hq (Nat.lt_succ_self k)]
      rw [c1] at e2 ⊢
      grind
    · obtain ⟨j, hj, rfl⟩ := (hL f).mp hf
      have hkj := (ff_slope hq).mp hs
      rw [ff_root hq hkj]
      have := natLe hkj
      rw [c1] at e2
      grind
theorem ff_outl {q : Rat} (hq : 0 < q) {L : List Fm} (hL : ∀ f, f ∈ L ↔ ∃ k, k < 40 ∧ f = ff q k) : ∀ (m k n : Nat), k + m = 40 → 0 < m → m ≤ n → outl L n (st k) (decide (k = 0)) = (List.range' k m).map (dueP q) := by
  have hne : L ≠ [] := fun z => by
    have := (hL (ff q 0)).mpr ⟨0, by decide, rfl⟩
    rw [z] at this
    cases this
  intro m
  induction m with
  | zero => intro k n h h0; omega
  | succ m ih =>
    intro k n h h0 hn
    have hk : k < 40 := by omega
    obtain ⟨n', rfl⟩ : ∃ n', n = n' + 1 := ⟨n - 1, by omega⟩
    have hb : bestOf L (st k) = ff q k := (bestOf_top hne (st k)).uniq (ff_top hq hL hk)
    have hx := ff_next hq hL hk
    unfold outl
    rw [hb, hx, List.range'_succ, List.map_cons]
    by_cases h39 : k = 39
    · obtain rfl : m = 0 := by omega
      rw [if_pos h39]
      show [_] = [_]
      unfold dueP
      rw [if_pos h39]
    · rw [if_neg h39]
      show _ :: _ = _ :: _
      have := ih (k + 1) n' (by omega) (by omega) (by omega)
      rw [show decide (k + 1 = 0) = false from by simp] at this
      rw [this]
      unfold dueP
      rw [if_neg h39]
end KM
set_option Elab.async false
set_option linter.all false
set_option maxRecDepth 100000
set_option maxHeartbeats 4000000
set_option exponentiation.threshold 20000
namespace KX
open PySem PySem.Spec PyProof.Rows L2
theorem passL {X : Cx} : Passes (L2.CX X.prog X.w) X E0 := fun _ _ _ _ _ _ _ h => by
  obtain ⟨_, _, _, _, _, _, _, _, _, _, _, _, z⟩ := h
  exact z.elim
/-! ### data of stretches and pieces -/
def optD : Option Rat → PyData
  | none => .none
  | some q => frD q
def stD (s : KM.Str4) : PyData := .tuple [frD s.1, .bool s.2.1, optD s.2.2.1, .bool s.2.2.2]
def pcD (p : KM.Piece) : PyData := .tuple [.tuple [frD p.low, .bool p.isin, optD p.high, .bool p.high.isSome], fmD p.form]
section
variable {K : PySem.W.Frag} {H : Hp}
theorem opt_dat {v : V} {o : Option Rat} (h : OptFr K H v o) : Dat K H v (optD o) := by
  cases o with
  | none =>
    cases (show v = .non from h)
    exact .non
  | some q => exact fr_dat h
theorem st_dat {v : V} {s : KM.Str4} (h : StV K H v s) : Dat K H v (stD s) := by
  obtain ⟨p, a, hh, rfl, hp, h1, h2⟩ := h
  exact .tup hp (.cons (fr_dat h1) (.cons (.bl _) (.cons (opt_dat h2) (.cons (.bl _) .nil))))
theorem pc_dat {v : V} {p : KM.Piece} (h : PcV K H v p) : Dat K H v (pcD p) := by
  obtain ⟨q, t, a, hh, b, rfl, hq, ht, h1, h2, h3⟩ := h
  exact .tup hq (.cons (.tup ht (.cons (fr_dat h1) (.cons (.bl _) (.cons (opt_dat h2) (.cons (.bl _) .nil))))) (.cons (fm_dat h3) .nil))
theorem pcs_dat : ∀ {xs : List V} {ps : List KM.Piece}, Paired (PcV K H) xs ps → DatAll K H xs (ps.map pcD)
  | _, _, .nil => .nil
  | _, _, .cons r t => .cons (pc_dat r) (pcs_dat t)
theorem sts_dat : ∀ {xs : List V} {ps : List KM.Str4}, Paired (StV K H) xs ps → DatAll K H xs (ps.map stD)
  | _, _, .nil => .nil
  | _, _, .cons r t => .cons (st_dat r) (sts_dat t)
end
theorem dep_map {α : Type} {n : Nat} {f : α → PyData} {xs : List α} (h : ∀ x, Dep n (f x)) : ∀ d ∈ xs.map f, Dep n d := fun d hd => by
  obtain ⟨x, _, rfl⟩ := List.mem_map.mp hd
  exact h x
theorem dep_opt {n : Nat} (o : Option Rat) : Dep (n + 2) (optD o) := by
  cases o with
  | none => exact dep_flat rfl
  | some q => exact dep_frD q
theorem dep_stD {n : Nat} (s : KM.Str4) : Dep (n + 3) (stD s) := dep_seq rfl (by show 4 ≤ 999; decide) (dep_cons (dep_frD _) (dep_cons (dep_flat rfl) (dep_cons (dep_opt _) (dep_cons (dep_flat rfl) dep_nil))))
theorem dep_pcD {n : Nat} (p : KM.Piece) : Dep (n + 4) (pcD p) := dep_seq rfl (by show 2 ≤ 999; decide) (dep_cons (dep_seq rfl (by show 4 ≤ 999; decide) (dep_cons (dep_frD _) (dep_cons (dep_flat rfl) (dep_cons (dep_opt _) (dep_cons (dep_flat rfl) dep_nil))))) (dep_cons (dep_fmD _) dep_nil))
theorem paired_perm {α β : Type} {R : α → β → Prop} {xs ys : List α} (h : ys.Perm xs) : ∀ {fs : List β}, Paired R xs fs → ∃ gs, Paired R ys gs ∧ gs.Perm fs := by
  induction h with
  | nil => intro fs h; cases h; exact ⟨[], .nil, .refl _⟩
  | cons x _ ih =>
    intro fs h
    cases h with
    | cons r t =>
      obtain ⟨gs, h1, h2⟩ := ih t
      exact ⟨_ :: gs, .cons r h1, h2.cons _⟩
  | swap x y l =>
    intro fs h
    cases h with
    | cons r t =>
      cases t with
      | cons r2 t => exact ⟨_ :: _ :: _, .cons r2 (.cons r t), .swap _ _ _⟩
  | trans _ _ ih1 ih2 =>
    intro fs h
    obtain ⟨gs, h1, h2⟩ := ih2 h
    obtain ⟨hs, h3, h4⟩ := ih1 h1
    exact ⟨hs, h3, h4.trans h2⟩
theorem neg_neg (f : Rat × Rat) : negF (negF f) = f := by
  unfold negF
  show (- -f.1, - -f.2) = f
  rw [Rat.neg_neg, Rat.neg_neg]
theorem st_frc : ∀ k, k < 41 → k ≠ 0 → frV (KM.st k) = [V.int (2 * (k : Nat) - 1), V.int 2] := by
  intro k hk h0
  unfold KM.st
  rw [if_neg h0]
  have : ∀ k : Fin 41, k.val ≠ 0 → ((mkRat (2 * (k.val : Nat) - 1) 2).num = 2 * (k.val : Nat) - 1 ∧ (mkRat (2 * (k.val : Nat) - 1) 2).den = 2) := by decide +kernel
  obtain ⟨h1, h2⟩ := this ⟨k, hk⟩ h0
  unfold frV
  rw [h1, h2]
  rfl
theorem ff_mk {t : Int} {b : Nat} (k : Nat) : ((mkRat (0 - ((k : Nat) : Int) * (k : Nat) * t) b, mkRat (2 * ((k : Nat) : Int) * t) b) : Rat × Rat) = KM.ff (mkRat t b) k := by
  unfold KM.ff
  have h1 : ((0 - ((k : Nat) : Int) * (k : Nat) * t : Int) : Rat) = -((k : Rat) * k * t) := by
    rw [Rat.intCast_sub, Rat.intCast_mul, Rat.intCast_mul]
    have : ((0 : Int) : Rat) = 0 := rfl
    rw [this]
    show 0 - (k : Rat) * (k : Rat) * (t : Rat) = _
    grind
  have h2 : ((2 * ((k : Nat) : Int) * t : Int) : Rat) = 2 * (k : Rat) * t := by
    rw [Rat.intCast_mul, Rat.intCast_mul]
    rfl
  rw [Rat.mkRat_eq_div, Rat.mkRat_eq_div, Rat.mkRat_eq_div, h1, h2]
  refine Prod.ext ?_ ?_
  · show -((k : Rat) * k * t) / b = -((k : Rat) * k * (t / b))
    grind
  · show 2 * (k : Rat) * t / b = 2 * (k : Rat) * (t / b)
    grind
theorem ff_sz {top : Int} {bot i : Nat} (h0 : 0 < top) (h1 : top ≤ 100000000) (h2 : 0 < bot) (h3 : bot ≤ 10000000000) (hi : i < 40) : SzF 240 (KM.ff (mkRat top bot) i) := by
  have nn : ((i : Nat) : Int) * ((i : Nat) : Int) = ((i * i : Nat) : Int) := by rw [Int.natCast_mul]
  have hii : i * i ≤ 1600 := Nat.mul_le_mul (show i ≤ 40 by omega) (show i ≤ 40 by omega)
  have b1 : (0 - ((i : Nat) : Int) * ((i : Nat) : Int) * top).natAbs < 2 ^ 40 := by
    rw [nn, Int.zero_sub, Int.natAbs_neg, Int.natAbs_mul, Int.natAbs_natCast]
    exact Nat.lt_of_le_of_lt (Nat.mul_le_mul hii (show top.natAbs ≤ 100000000 by omega)) (by decide)
  have b2 : (2 * ((i : Nat) : Int) * top).natAbs < 2 ^ 40 := by
    rw [Int.natAbs_mul, Int.natAbs_mul, Int.natAbs_natCast]
    exact Nat.lt_of_le_of_lt (Nat.mul_le_mul (show 2 * i ≤ 80 by omega) (show top.natAbs ≤ 100000000 by omega)) (by decide)
  rw [← ff_mk]
  exact ⟨(KM.Sz.mk h2 b1 (Nat.lt_of_le_of_lt h3 (by decide))).mono (by decide), (KM.Sz.mk h2 b2 (Nat.lt_of_le_of_lt h3 (by decide))).mono (by decide)⟩
section
variable {P : Program} {w : World} {K : PySem.W.Frag} {mg : Str → Option Value} {base : Heap}
def spForty (K : PySem.W.Frag) : Sp := fun vs H Q _ => ∃ (a : Addr), vs = [.ref a] ∧ DrAt H a ∧ ∀ H', Dw a H H' → Q (.bl true) H'
theorem ok_L_forty_right (T : Txt K mg) (U : TxE P K mg) : FnOk P w K mg base CX0 11 T.L_forty_right.f T.L_forty_right.fd ["_law_draws"] (spForty K) := by
  refine T.L_forty_right.F.ok sc_L_forty_right (fun vs H Q E h => ?_) (fun cdv A outer s H vs Q E hr h => ?_)
  · obtain ⟨a, rfl, _⟩ := h
    rfl
  · obtain ⟨a, rfl, hD, k⟩ := h
    refine ⟨_, (pss_cons (ps_asg (pe_call (ok_L_pick T) (hr.mono (by decide)) (by rfl) T.L_pick.g T.L_pick.F.kp T.L_pick.b .nil pass0 (pa_cons (pv 0) (pa_cons (pe_lst (pa_cons (pe_tup (pa_cons pe_int (pa_cons pe_int pa_nil))) (pa_cons (pe_tup (pa_cons (pe_op op_pow pe_int pe_int) (pa_cons pe_int pa_nil))) (pa_cons (pe_tup (pa_cons pe_int (pa_cons (pe_op op_pow pe_int pe_int) pa_nil))) (pa_cons (pe_tup (pa_cons pe_int (pa_cons pe_int pa_nil))) pa_nil))))) pa_nil))) (pg_tup rfl (pgs_cons (pg_name (i := 1) sc_L_forty_right.nd rfl (Or.inl rfl)) (pgs_cons (pg_name (i := 2) sc_L_forty_right.nd rfl (Or.inl rfl)) pgs_nil))))
      (pss_cons (ps_par (i := 3) (j := 4) (by rfl) sc_L_forty_right.nd rfl rfl (by decide) rfl rfl (pa_cons (pe_lst pa_nil) (pa_cons (pe_lst pa_nil) pa_nil)) (by rfl))
      (pss_cons (ps_for PassesOwn.never rfl (pi_range1 (by rfl) T.m_range (pa_cons pe_int pa_nil)) (pg_name (i := 5) sc_L_forty_right.nd rfl (Or.inl rfl)) (pss_cons (ps_expr (pe_bm PySem.F.plainAttrs_list PySem.F.slot_list_append PySem.F.type_list_append mt_append (pv 3) (pa_cons (pe_tup (pa_cons (pe_call (ok_L_lowest T) (hr.mono (by decide)) (by rfl) T.L_lowest.g T.L_lowest.F.kp T.L_lowest.b .nil pass0 (pa_cons (pe_op op_sub pe_int (pe_op op_mul (pe_op op_mul (pv 5) (pv 5)) (pv 1))) (pa_cons (pv 2) pa_nil))) (pa_cons (pe_call (ok_L_lowest T) (hr.mono (by decide)) (by rfl) T.L_lowest.g T.L_lowest.F.kp T.L_lowest.b .nil pass0 (pa_cons (pe_op op_mul (pe_op op_mul pe_int (pv 5)) (pv 1)) (pa_cons (pv 2) pa_nil))) pa_nil))) pa_nil)))
      (pss_cons (ps_par (i := 6) (j := 7) (by rfl) sc_L_forty_right.nd rfl rfl (by decide) rfl rfl (pa_cons (pe_ifExp (pt_cmpR op_eq (pv 5) pe_int (nomark _)) (pe_tup (pa_cons pe_int (pa_cons pe_int pa_nil))) (pe_tup (pa_cons (pe_op op_sub (pe_op op_mul pe_int (pv 5)) pe_int) (pa_cons pe_int pa_nil)))) (pa_cons (pe_ifExp (pt_cmpR op_eq (pv 5) pe_int (nomark _)) pe_non (pe_tup (pa_cons (pe_op op_add (pe_op op_mul pe_int (pv 5)) pe_int) (pa_cons pe_int pa_nil)))) pa_nil)) (by rfl))
      (pss_one (ps_expr (pe_bm PySem.F.plainAttrs_list PySem.F.slot_list_append PySem.F.type_list_append mt_append (pv 4) (pa_cons (pe_tup (pa_cons (pe_tup (pa_cons (pv 6) (pa_cons (pe_cmpR op_eq (pv 5) pe_int (nomark _)) (pa_cons (pv 7) (pa_cons (pe_cmpR op_notN (pv 7) pe_non (nomark _)) pa_nil))))) (pa_cons (pe_ix ix_list (pv 3) (pv 5) (fun _ _ => rfl)) pa_nil))) pa_nil)))))))
      (pss_cons (ps_setLc (i := 8) (own := [("_law_part", 10), ("_law_form", 11)]) (g := gTup K 2 (gCons (gName 10) (gCons (gName 11) gNil))) (tt := tYes) (by rfl) sc_L_forty_right.nd rfl rfl (sw_true rfl rfl rfl (by decide +kernel)) (pi_list (pv 4)) (blkOk_by (own := [("_law_part", 10), ("_law_form", 11)]) (N := ["_law_draws", "_law_top", "_law_bottom", "_law_forms", "_law_due", "_law_k", "_law_low", "_law_high", "_law_least", "_law_mixed_here", "_law_part", "_law_form"]) (sc := defScope s_L_forty_right) (by decide +kernel)) (fun _ _ _ _ _ => pg_tup rfl (pgs_cons (pg_name (i := 10) sc_L_forty_right.nd rfl (Or.inl rfl)) (pgs_cons (pg_name (i := 11) sc_L_forty_right.nd rfl (Or.inl rfl)) pgs_nil))) (fun _ _ _ _ _ => pts_nil) (fun _ _ _ _ _ => (pe_tup (pa_cons (pv 10) (pa_cons (pe_call (ok_L_turned T) (hr.mono (by decide)) (by rfl) T.L_turned.g T.L_turned.F.kp T.L_turned.b .nil pass0 (pa_cons (pv 11) pa_nil)) pa_nil)))))
      (pss_cons (ps_set (i := 9) sc_L_forty_right.nd rfl (Or.inl rfl) (pe_call (ok_L_mixed T) (hr.mono (by decide)) (by rfl) T.L_mixed.g T.L_mixed.F.kp T.L_mixed.b .nil pass0 (pa_cons (pv 0) (pa_cons (pv 3) pa_nil))))
      (pss_one (ps_ret (pe_call (ok_L_same T) (hr.mono (by decide)) (by rfl) T.L_same.g T.L_same.F.kp T.L_same.b .nil pass0 (pa_cons (pe_lst (pa_cons (pe_call (ok_greatest_form T U) (hr.mono (by decide)) (by rfl) T.greatest_form.g T.greatest_form.F.kp T.greatest_form.b .nil passL (pa_cons (pv 9) pa_nil)) (pa_cons (pe_call (ok_least_form T U) (hr.mono (by decide)) (by rfl) T.least_form.g T.least_form.F.kp T.least_form.b .nil passL (pa_cons (pe_lc (own := [("_law_form", 11)]) (g := gName 11) (tt := tYes) rfl sc_L_forty_right.nd (pi_list (pv 9)) (blkOk_by (own := [("_law_form", 11)]) (N := ["_law_draws", "_law_top", "_law_bottom", "_law_forms", "_law_due", "_law_k", "_law_low", "_law_high", "_law_least", "_law_mixed_here", "_law_part", "_law_form"]) (sc := defScope s_L_forty_right) (by decide +kernel)) (fun _ _ _ _ _ => pg_name (i := 11) sc_L_forty_right.nd rfl (Or.inl rfl)) (fun _ _ _ _ _ => pts_nil) (fun _ _ _ _ _ => (pe_call (ok_L_turned T) (hr.mono (by decide)) (by rfl) T.L_turned.g T.L_turned.F.kp T.L_turned.b .nil pass0 (pa_cons (pv 11) pa_nil)))) pa_nil)) pa_nil))) (pa_cons (pe_lst (pa_cons (pv 4) (pa_cons (pv 8) pa_nil))) pa_nil)))))))))), ?_⟩
    have d40 : (10 : Int) ^ Int.toNat 8 = ((100000000 : Nat) : Int) := by decide
    have d41 : (10 : Int) ^ Int.toNat 10 = ((10000000000 : Nat) : Int) := by decide
    refine ⟨_, rfl, sz2, fun t1 n1 => ⟨_, _, rfl, rfl, ⟨by decide, by decide, by decide⟩, sz2, fun t2 n2 => ⟨_, _, rfl, rfl, ⟨by decide, by decide, by decide⟩, sz2, fun t3 n3 => ⟨sz2, fun t4 n4 => ⟨sz4, fun tl nl => ?_⟩⟩⟩⟩⟩
    have u1 := same_upd (o := .tup [V.int 1, V.int 1]) n1
    have u2 := same_upd (o := .tup [V.int ((10 : Int) ^ Int.toNat 8), V.int 7]) n2
    have u3 := same_upd (o := .tup [V.int 3, V.int ((10 : Int) ^ Int.toNat 10)]) n3
    have u4 := same_upd (o := .tup [V.int 1, V.int 2]) n4
    have ul := same_upd (o := .lst [V.ref t1, V.ref t2, V.ref t3, V.ref t4]) nl
    have u14 := u1.trans (u2.trans (u3.trans u4))
    have uA := u14.trans ul
    refine ⟨a, tl, _, rfl, hD.same uA, SqL.of upd_same, (hD.same u14).ne nl, (by simp), (by show 4 ≤ 1000; decide), fun v H1 hv w1 => ?_⟩
    have tA := w1.tups (hD.same uA)
    obtain ⟨tp, top, bot, rfl, htp, h0, h1, h2, h3⟩ : ∃ (tp : Addr) (top : Int) (bot : Nat), v = .ref tp ∧ SqT K H1 tp [.int top, .int bot] ∧ 0 < top ∧ top ≤ 100000000 ∧ 0 < bot ∧ bot ≤ 10000000000 := by
      simp only [List.mem_cons, List.not_mem_nil, or_false] at hv
      rcases hv with rfl | rfl | rfl | rfl
      · exact ⟨t1, 1, 1, rfl, tA.sqT ((u2.trans (u3.trans (u4.trans ul))).sqT (.inl (.inl upd_same))), by decide, by decide, by decide, by decide⟩
      · exact ⟨t2, (10 : Int) ^ Int.toNat 8, 7, rfl, tA.sqT ((u3.trans (u4.trans ul)).sqT (.inl (.inl upd_same))), by decide, by decide, by decide, by decide⟩
      · refine ⟨t3, 3, ((10 : Int) ^ Int.toNat 10).toNat, rfl, ?_, by decide, by decide, by decide, by decide⟩
        rw [Int.toNat_of_nonneg (by decide)]
        exact tA.sqT ((u4.trans ul).sqT (.inl (.inl upd_same)))
      · exact ⟨t4, 1, 2, rfl, tA.sqT (ul.sqT (.inl (.inl upd_same))), by decide, by decide, by decide, by decide⟩
    have w01 : Dw a H H1 := (Dw.of hD uA).trans w1
    clear u1 u2 u3 u4 ul u14 uA tA hv w1 n1 n2 n3 n4 nl
    refine ⟨tp, _, rfl, htp, rfl, _, _, rfl, _, _, rfl, rfl, ?_⟩
    refine ⟨Nat.zero_le _, fun rf nf => ⟨Nat.zero_le _, fun rd nd => ⟨_, _, rfl, ?_⟩⟩⟩
    have vf := same_upd (o := .lst []) nf
    have vd := same_upd (o := .lst []) nd
    have nrd : rf ≠ rd := fun z => by
      rw [← z, upd_same] at nd
      cases nd
    have nrd0 : H1 rd = none := vf.free nd
    have hq : 0 < mkRat top bot := by
      rw [Rat.mkRat_eq_div]
      have a1 : (0 : Rat) < (top : Rat) := Rat.intCast_lt_intCast.mpr h0
      have a2 : (0 : Rat) < (bot : Rat) := Rat.natCast_lt_natCast.mpr h2
      have e := KM.div_mul' (a := (top : Rat)) (b := (bot : Rat)) (by grind)
      by_cases z : (0 : Rat) < (top : Rat) / (bot : Rat)
      · exact z
      · have := KM.mul_le' (show (top : Rat) / (bot : Rat) ≤ 0 by grind) (Rat.le_of_lt a2)
        grind
    refine ⟨40, rfl, by decide, by decide, for_range (lo := 0) (n := 40) (fun i σ H' => Same H1 H' ∧ ∃ (vs ys : List V) (y5 y6 y7 y8 y9 y10 y11 : Option V), σ = [some (.ref a), some (.int top), some (.int bot), some (.ref rf), some (.ref rd), y5, y6, y7, y8, y9, y10, y11] ∧
        H' rf = some (.lst vs) ∧ H' rd = some (.lst ys) ∧ Paired (FmV K H') vs ((List.range i).map (KM.ff (mkRat top bot))) ∧ Paired (PcV K H') ys ((List.range i).map (KM.dueP (mkRat top bot))))
      ⟨vf.trans vd, [], [], none, none, none, none, none, none, none, rfl, vd _ _ upd_same, upd_same, .nil, .nil⟩ ?_ ?_⟩
    · rintro i σ H2 hi ⟨s2, vs, ys, y5, y6, y7, y8, y9, y10, y11, rfl, hf2, hd2, hvs, hys⟩
      rw [Int.zero_add]
      have hi40 : i < 40 := hi
      have vlen := Paired.length hvs
      have ylen := Paired.length hys
      rw [List.length_map, List.length_range] at vlen ylen
      have ck : CMul ((i : Nat) : Int) ((i : Nat) : Int) := cmul_r (by omega) (by omega)
      have nn : ((i : Nat) : Int) * ((i : Nat) : Int) = ((i * i : Nat) : Int) := by rw [Int.natCast_mul]
      have hii : i * i ≤ 1600 := Nat.mul_le_mul (show i ≤ 40 by omega) (show i ≤ 40 by omega)
      have ct : ∀ x : Int, CMul x top := fun x => cmul_r (by omega) (by omega)
      have b1 : (0 - ((i : Nat) : Int) * ((i : Nat) : Int) * top).natAbs < 2 ^ 40 := by
        rw [nn, Int.zero_sub, Int.natAbs_neg, Int.natAbs_mul, Int.natAbs_natCast]
        exact Nat.lt_of_le_of_lt (Nat.mul_le_mul hii (show top.natAbs ≤ 100000000 by omega)) (by decide)
      have b2 : (2 * ((i : Nat) : Int) * top).natAbs < 2 ^ 40 := by
        rw [Int.natAbs_mul, Int.natAbs_mul, Int.natAbs_natCast]
        exact Nat.lt_of_le_of_lt (Nat.mul_le_mul (show 2 * i ≤ 80 by omega) (show top.natAbs ≤ 100000000 by omega)) (by decide)
      have b3 : ((bot : Nat) : Int).natAbs < 2 ^ 40 := by rw [Int.natAbs_natCast]; exact Nat.lt_of_le_of_lt h3 (by decide)
      have up : ∀ {x : Nat}, x < 2 ^ 40 → x < 2 ^ 8500 := fun h => Nat.lt_of_lt_of_le h (Nat.pow_le_pow_right (by decide) (by decide))
      refine ⟨_, rfl, .inl ⟨rfl, _, SqL.of hf2⟩, _, rfl, _, rfl, _, _, rfl, rfl, ck, _, rfl, _, _, rfl, rfl, ct _, _, _, rfl, rfl, _, rfl, _, _, rfl, (by omega), up b1, up b3, fun p1 np1 => ?_⟩
      refine ⟨_, rfl, _, _, rfl, rfl, cmul_r (by omega) (by omega), _, rfl, _, _, rfl, rfl, ct _, _, rfl, _, _, rfl, (by omega), up b2, up b3, fun p2 np2 => ⟨sz2, fun p3 np3 => ?_⟩⟩
      rw [Int.toNat_natCast] at np2 np3 ⊢
      have q1 := same_upd (o := .tup (frV (mkRat (0 - ((i : Nat) : Int) * ((i : Nat) : Int) * top) bot))) np1
      have q2 := same_upd (o := .tup (frV (mkRat (2 * ((i : Nat) : Int) * top) bot))) np2
      have q3 := same_upd (o := .tup [V.ref p1, V.ref p2]) np3
      have q13 := q1.trans (q2.trans q3)
      have hfm := FmV.keep (Tups.refl _) (v := .ref p3) (q := KM.ff (mkRat top bot) i) (K := K) (H := upd (upd (upd H2 p1 (.tup (frV (mkRat (0 - ((i : Nat) : Int) * ((i : Nat) : Int) * top) bot)))) p2 (.tup (frV (mkRat (2 * ((i : Nat) : Int) * top) bot)))) p3 (.tup [V.ref p1, V.ref p2]))
        (by rw [← ff_mk]; exact ⟨p3, _, _, rfl, .inl (.inl upd_same), ⟨p1, rfl, .inl (.inl ((q2.trans q3) _ _ upd_same))⟩, ⟨p2, rfl, .inl (.inl (q3 _ _ upd_same))⟩⟩)
      have hf5 := q13 _ _ hf2
      have hd5 := q13 _ _ hd2
      have hvs5 : Paired (FmV K _) vs _ := Paired.imp (fun _ _ h => h.keep (.of q13)) hvs
      have hys5 : Paired (PcV K _) ys _ := Paired.imp (fun _ _ h => PcV.keep (.of q13) h) hys
      have s5 := s2.trans q13
      generalize upd (upd (upd H2 p1 (.tup (frV (mkRat (0 - ((i : Nat) : Int) * ((i : Nat) : Int) * top) bot)))) p2 (.tup (frV (mkRat (2 * ((i : Nat) : Int) * top) bot)))) p3 (.tup [V.ref p1, V.ref p2]) = H5 at q13 hfm hf5 hd5 hvs5 hys5 s5 ⊢
      refine ⟨rf, vs, _, rfl, rfl, hf5, small1000 (by omega), ?_⟩
      have tf := tups_lst (o := .lst (vs ++ [V.ref p3])) hf5
      have hvs6 : Paired (FmV K (upd H5 rf (.lst (vs ++ [V.ref p3])))) (vs ++ [V.ref p3]) ((List.range (i + 1)).map (KM.ff (mkRat top bot))) := by
        rw [List.range_succ, List.map_append]
        exact Paired.append (Paired.imp (fun _ _ h => h.keep tf) hvs5) (Paired.one (hfm.keep tf))
      have hys6 : Paired (PcV K (upd H5 rf (.lst (vs ++ [V.ref p3])))) ys _ := Paired.imp (fun _ _ h => PcV.keep tf h) hys5
      have hf6 : upd H5 rf (.lst (vs ++ [V.ref p3])) rf = some (.lst (vs ++ [V.ref p3])) := upd_same
      have hd6 : upd H5 rf (.lst (vs ++ [V.ref p3])) rd = some (.lst ys) := by rw [upd_ne (Ne.symm nrd)]; exact hd5
      have s6 : Same H1 (upd H5 rf (.lst (vs ++ [V.ref p3]))) := fun b o hb => by
        rw [upd_ne (ne_of_none hb nf)]
        exact s5 _ _ hb
      have hfm6 := hfm.keep tf
      generalize upd H5 rf (.lst (vs ++ [V.ref p3])) = H6 at hvs6 hys6 hf6 hd6 s6 hfm6 ⊢
      have dk : ∀ n : Nat, decide (V.int ((i : Nat) : Int) = V.int ((n : Nat) : Int)) = decide (i = n) := fun n => len2 i n
      refine ⟨_, rfl, rfl, _, rfl, ?_⟩
      refine tIf_valH (fun v H' => Same H6 H' ∧ Fr K H' v (KM.st i)) (fun hk Q' hQ' => ?_) (fun hk Q' hQ' => ?_) ?_
      · have e0 : i = 0 := by
          have := dk 0
          rw [show ((0 : Nat) : Int) = 0 from rfl, hk] at this
          exact of_decide_eq_true this.symm
        refine ⟨sz2, fun z nz => hQ' _ _ ⟨same_upd nz, ?_⟩⟩
        rw [e0]
        exact new0
      · have e0 : i ≠ 0 := by
          have := dk 0
          rw [show ((0 : Nat) : Int) = 0 from rfl, hk] at this
          exact of_decide_eq_false this.symm
        refine ⟨_, rfl, _, _, rfl, rfl, cmul_r (by omega) (by omega), _, _, rfl, rfl, sz2, fun z nz => hQ' _ _ ⟨same_upd nz, ⟨z, rfl, ?_⟩⟩⟩
        rw [st_frc i (by omega) e0]
        exact .inl (.inl upd_same)
      · rintro lov H7 ⟨s67, hlo⟩
        refine ⟨_, rfl, rfl, _, rfl, ?_⟩
        refine tIf_valH (fun v H' => Same H7 H' ∧ OptFr K H' v (if i = 39 then none else some (KM.st (i + 1)))) (fun hk Q' hQ' => ?_) (fun hk Q' hQ' => ?_) ?_
        · have e0 : i = 39 := by
            have := dk 39
            rw [show ((39 : Nat) : Int) = 39 from rfl, hk] at this
            exact of_decide_eq_true this.symm
          refine hQ' _ _ ⟨Same.refl _, ?_⟩
          rw [if_pos e0]
          rfl
        · have e0 : i ≠ 39 := by
            have := dk 39
            rw [show ((39 : Nat) : Int) = 39 from rfl, hk] at this
            exact of_decide_eq_false this.symm
          refine ⟨_, rfl, _, _, rfl, rfl, cmul_r (by omega) (by omega), _, _, rfl, rfl, sz2, fun z nz => hQ' _ _ ⟨same_upd nz, ?_⟩⟩
          rw [if_neg e0]
          refine ⟨z, rfl, ?_⟩
          rw [st_frc (i + 1) (by omega) (by omega)]
          rw [show (2 * ((i + 1 : Nat) : Int) - 1) = 2 * ((i : Nat) : Int) + 1 from by omega]
          exact .inl (.inl upd_same)
        · rintro hiv H8 ⟨s78, hhi⟩
          have s68 := s67.trans s78
          refine ⟨_, _, rfl, ?_⟩
          have hd8 := s68 _ _ hd6
          have hf8 := s68 _ _ hf6
          refine ⟨_, rfl, .inl ⟨rfl, _, SqL.of hd8⟩, _, rfl, _, rfl, rfl, _, rfl, ?_⟩
          refine ⟨_, rfl, rfl, sz4, fun z1 nz1 => ⟨_, rfl, _, rfl, _, _, _, _, rfl, rfl, SqL.of ((same_upd nz1) _ _ hf8), atI_nat (j := i) (v := V.ref p3) (by rw [List.getElem?_append_right (by omega), vlen, Nat.sub_self]; rfl), sz2, fun z2 nz2 => ?_⟩⟩
          have v1 := same_upd (o := .tup [lov, V.bl (decide (V.int ((i : Nat) : Int) = V.int 0)), hiv, V.bl (!decide (hiv = V.non))]) nz1
          have v2 := same_upd (o := .tup [V.ref z1, V.ref p3]) nz2
          have v12 := v1.trans v2
          have hd9 := v12 _ _ hd8
          have hf9 := v12 _ _ hf8
          have td := tups_lst (o := .lst (ys ++ [V.ref z2])) hd9
          refine ⟨rd, ys, _, rfl, rfl, hd9, small1000 (by omega), ?_⟩
          have s16 : Same H1 _ := s6.trans (s68.trans v12)
          refine ⟨fun b o hb => ?_, vs ++ [V.ref p3], ys ++ [V.ref z2], _, _, _, _, _, _, _, rfl, ?_, upd_same, ?_, ?_⟩
          · rw [upd_ne (ne_of_none hb nrd0)]
            exact s16 _ _ hb
          · rw [upd_ne nrd]
            exact hf9
          · exact Paired.imp (fun _ _ h => (h.keep (.of (s68.trans v12))).keep td) hvs6
          · rw [List.range_succ, List.map_append]
            refine Paired.append (Paired.imp (fun _ _ h => PcV.keep td (PcV.keep (.of (s68.trans v12)) h)) hys6) (Paired.one (PcV.keep td ?_))
            have hh9 := hhi.keep (.of v12)
            refine ⟨z2, z1, lov, hiv, V.ref p3, rfl, .inl (.inl upd_same), .inl (.inl ?_), hlo.keep (.of (s78.trans v12)), hh9, hfm6.keep (.of (s68.trans v12))⟩
            rw [v2 _ _ upd_same]
            have e1 : decide (V.int ((i : Nat) : Int) = V.int 0) = decide (i = 0) := dk 0
            have e2 : (!decide (hiv = V.non)) = (if i = 39 then none else some (KM.st (i + 1)) : Option Rat).isSome := by
              by_cases h39 : i = 39
              · rw [if_pos h39] at hhi ⊢
                have : hiv = .non := hhi
                rw [decide_eq_true this]
                rfl
              · rw [if_neg h39] at hhi ⊢
                obtain ⟨zz, rfl, _⟩ := hhi
                rw [decide_eq_false (by intro q; cases q)]
                rfl
            rw [e1, e2]
            rfl
    · rintro σ H2 ⟨s2, vs, ys, y5, y6, y7, y8, y9, y10, y11, rfl, hf2, hd2, hvs, hys⟩
      have vlen := Paired.length hvs
      have ylen := Paired.length hys
      rw [List.length_map, List.length_range] at vlen ylen
      have w02 : Dw a H H2 := w01.trans (Dw.of w01.dr s2)
      have nfa : rf ≠ a := w01.dr.ne nf
      have nda : rd ≠ a := w01.dr.ne nrd0
      -- least
      refine ⟨_, rfl, rd, rfl, ⟨_, SqL.of hd2⟩, fun D nD => lc_list (K := K) (a := rd) (xs := ys) (fun i H' => Same H2 H' ∧ ∃ acc, H' D = some (.lst acc) ∧ Paired (PcV K H') acc ((((List.range 40).map (KM.dueP (mkRat top bot))).take i).map negP)) ⟨same_upd nD, [], upd_same, .nil⟩ (fun i H' _ ⟨e, _⟩ => e.seq (SqL.of hd2)) ?_ ?_⟩
      · rintro i x H4 hi ⟨e4, acc2, hD2, hacc2⟩
        obtain ⟨p, hpi, px⟩ := Paired.get hys hi
        obtain ⟨q, t, a1, hh, b, rfl, hq1, ht, ha, hhh, hb⟩ := px.keep (.of e4)
        refine ⟨q, _, rfl, hq1, rfl, _, _, rfl, _, _, rfl, rfl, rfl, ?_⟩
        refine ⟨_, rfl, _, rfl, _, _, rfl, hb, fun v6 H6 s6 hv6 => ⟨sz2, fun t7 n7 => ?_⟩⟩
        have s7 := same_upd (o := .tup [V.ref t, v6]) n7
        have s57 := s6.trans s7
        have hD7 := s57 _ _ hD2
        have hal := Paired.length hacc2
        rw [List.length_map, List.length_take, List.length_map, List.length_range] at hal
        refine ⟨acc2, hD7, small1000 (by omega), ?_, acc2 ++ [V.ref t7], upd_same, ?_⟩
        · intro b o hb
          rw [upd_ne (ne_of_none hb nD)]
          exact s57 _ _ (e4 _ _ hb)
        · rw [take_more hpi, List.map_append]
          have t8 := tups_lst (o := .lst (acc2 ++ [V.ref t7])) hD7
          refine Paired.append (Paired.imp (fun a g h => (PcV.keep (.of s57) h).keep t8) hacc2) (Paired.one ?_)
          exact ⟨t7, t, _, _, _, rfl, t8.sqT (.inl (.inl upd_same)), t8.sqT (s57.sqT ht), (ha.keep (.of s57)).keep t8, (hhh.keep (.of s57)).keep t8, (hv6.keep (.of s7)).keep t8⟩
      · rintro H3 ⟨s23, ls, hD3, hls⟩
        rw [ylen, List.take_of_length_le (by rw [List.length_map, List.length_range]; exact Nat.le_refl _)] at hls
        have nDa : D ≠ a := w02.dr.ne nD
        have w03 := w02.trans (Dw.of w02.dr s23)
        refine ⟨_, rfl, _, rfl, a, rf, vs, rfl, w03.dr, SqL.of (s23 _ _ hf2), by omega, fun rm H4 ms w4 nrm hrm hperm => ?_⟩
        have t34 := w4.tups w03.dr
        obtain ⟨gs, hgs, hgp⟩ := paired_perm hperm (Paired.imp (fun _ _ h => (h.keep (.of s23)).keep t34) hvs)
        have hd4 := w4.keep _ _ nda (s23 _ _ hd2)
        have hD4 := w4.keep _ _ nDa hD3
        have hys4 : Paired (PcV K H4) ys _ := Paired.imp (fun _ _ h => PcV.keep t34 (PcV.keep (.of s23) h)) hys
        have hls4 : Paired (PcV K H4) ls _ := Paired.imp (fun _ _ h => PcV.keep t34 h) hls
        have w04 := w03.trans w4
        have mem : ∀ f, f ∈ gs ↔ ∃ k, k < 40 ∧ f = KM.ff (mkRat top bot) k := fun f => by
          rw [hgp.mem_iff, List.mem_map]
          constructor
          · rintro ⟨k, hk, rfl⟩
            exact ⟨k, List.mem_range.mp hk, rfl⟩
          · rintro ⟨k, hk, rfl⟩
            exact ⟨k, List.mem_range.mpr hk, rfl⟩
        have glen : gs.length = 40 := by rw [hgp.length_eq, List.length_map, List.length_range]
        have gne : gs ≠ [] := fun z => by rw [z] at glen; cases glen
        have gz : ∀ f ∈ gs, SzF 240 f := fun f hf => by
          obtain ⟨k, hk, rfl⟩ := (mem f).mp hf
          exact ff_sz h0 h1 h2 h3 hk
        have hout : outlAll gs = (List.range 40).map (KM.dueP (mkRat top bot)) := by
          have := KM.ff_outl hq mem 40 0 (gs.length + 1) rfl (by decide) (by omega)
          rw [List.range_eq_range']
          exact this
        have mlen := Paired.length hgs
        clear hys hls hvs hf2 hd2 hD3 s23 w4 w03 w02
        refine ⟨_, rfl, .ref rm, .list (gs.map fmD), rfl, .lst hrm (form_dats hgs), .inl ⟨gs.map fmD, gs, rfl, by simpa using gne, forms_of gz, by rw [List.length_map]; omega, fun r1 H5 y5 s5 n5 h5 p5 => ?_⟩⟩
        rw [hout] at p5
        refine ⟨_, rfl, rm, rfl, ⟨_, SqL.of (s5 _ _ hrm)⟩, fun D2 nD2 => lc_list (K := K) (a := rm) (xs := ms) (fun i H' => Same H5 H' ∧ ∃ acc, H' D2 = some (.lst acc) ∧ Paired (FmV K H') acc ((gs.take i).map negF)) ⟨same_upd nD2, [], upd_same, .nil⟩ (fun i H' _ ⟨e, _⟩ => e.seq (SqL.of (s5 _ _ hrm))) ?_ ?_⟩
        · rintro i x H6 hi ⟨e6, acc, hDD, hacc⟩
          obtain ⟨f, hf, fx⟩ := Paired.get hgs hi
          refine ⟨rfl, _, rfl, _, _, rfl, fx.keep (.of (s5.trans e6)), fun v2 H7 s7 hv2 => ?_⟩
          have hD7 := s7 _ _ hDD
          have hal := Paired.length hacc
          rw [List.length_map, List.length_take] at hal
          refine ⟨acc, hD7, small1000 (by omega), ?_, acc ++ [v2], upd_same, ?_⟩
          · intro b o hb
            rw [upd_ne (ne_of_none hb nD2)]
            exact s7 _ _ (e6 _ _ hb)
          · rw [take_more hf, List.map_append]
            have t4 := tups_lst (o := .lst (acc ++ [v2])) hD7
            exact Paired.append (Paired.imp (fun a g h => (h.keep (.of s7)).keep t4) hacc) (Paired.one (hv2.keep t4))
        · rintro H6 ⟨s56, acc, hDD, hacc⟩
          rw [mlen, List.take_length] at hacc
          have hml : (gs.map negF).length = gs.length := List.length_map ..
          have gz2 : ∀ f ∈ gs.map negF, SzF 240 f := fun f hf => by
            obtain ⟨g, hg, rfl⟩ := List.mem_map.mp hf
            exact neg_sz (gz g hg)
          have hneg : leastAll (gs.map negF) = ((List.range 40).map (KM.dueP (mkRat top bot))).map negP := by
            unfold leastAll
            rw [List.map_map, show (negF ∘ negF) = id from funext fun f => neg_neg f, List.map_id, hout]
          refine ⟨.ref D2, .list ((gs.map negF).map fmD), rfl, .lst hDD (form_dats hacc), .inl ⟨(gs.map negF).map fmD, gs.map negF, rfl, by simpa using gne, forms_of gz2, by rw [List.length_map]; omega, fun r2 H7 y7 s7 n7 h7 p7 => ?_⟩⟩
          rw [hneg] at p7
          refine ⟨sz2, fun l1 nl1 => ⟨_, rfl, _, rfl, sz2, fun l2 nl2 => ?_⟩⟩
          have x1 := same_upd (o := .lst [V.ref r1, V.ref r2]) nl1
          have x2 := same_upd (o := .lst [V.ref rd, V.ref D]) nl2
          have x12 := x1.trans x2
          have s47 := s5.trans (s56.trans s7)
          have s49 := s47.trans x12
          refine ⟨.ref l1, .ref l2, .list [.list (((List.range 40).map (KM.dueP (mkRat top bot))).map pcD), .list ((((List.range 40).map (KM.dueP (mkRat top bot))).map negP).map pcD)], rfl, ?_, ?_, ?_, fun H' s' => k H' (w04.trans (Dw.of w04.dr (s49.trans s')))⟩
          · exact .lst (x2 _ _ upd_same) (.cons ((Dat.lst h5 (pcs_dat p5)).k (s56.trans (s7.trans x12))) (.cons ((Dat.lst h7 (pcs_dat p7)).k x12) .nil))
          · exact .lst upd_same (.cons ((Dat.lst hd4 (pcs_dat hys4)).k s49) (.cons ((Dat.lst hD4 (pcs_dat hls4)).k s49) .nil))
          · exact dep_seq rfl (by show 2 ≤ 999; decide) (dep_cons (dep_seq rfl (by rw [List.length_map, List.length_map, List.length_range]; decide) (dep_map fun p => dep_pcD p)) (dep_cons (dep_seq rfl (by rw [List.length_map, List.length_map, List.length_map, List.length_range]; decide) (dep_map fun p => dep_pcD p)) dep_nil))
end
end KX
set_option Elab.async false
set_option linter.all false
set_option maxRecDepth 100000
set_option maxHeartbeats 4000000
set_option exponentiation.threshold 20000
namespace KX
open PySem PySem.Spec PyProof.Rows L2
theorem seqN {K : PySem.W.Frag} {H H' : Hp} (e : LamX.ExtN H H') {r : Addr} {xs : List V} (h : SqL K H r xs) : SqL K H' r xs := by
  rcases h with (h | ⟨o, h⟩) | h
  · exact .inl (.inl (e _ _ h fun ps z => by cases z))
  · exact .inl (.inr ⟨o, e _ _ h fun ps z => by cases z⟩)
  · exact .inr h
theorem ext_dw {a : Addr} {H H1 H2 : Hp} (s : Same H H1) (n : H a = none) (w : Dw a H1 H2) : LamX.ExtN H H2 := fun b o h _ => w.keep b o (ne_of_none h n) (s b o h)
theorem upto_len (f g : Rat × Rat) : (KM.lUpto f g).length ≤ 999 := by
  unfold KM.lUpto
  repeat' split
  all_goals first | exact Nat.zero_le _ | (show 1 ≤ 999; decide)
theorem below_len (f g : Rat × Rat) : (KM.lBelow f g).length ≤ 999 := by
  unfold KM.lBelow
  repeat' split
  all_goals first | exact Nat.zero_le _ | (show 1 ≤ 999; decide)
section
variable {P : Program} {w : World} {K : PySem.W.Frag} {mg : Str → Option Value} {base : Heap}
def spLaw (K : PySem.W.Frag) (PT : Addr) : Sp := fun vs H Q _ => ∃ (l : Addr) (ns : List Int), vs = [.ref l] ∧ SqL K H l (ns.map V.int) ∧ LamX.Tabs (LamT PT) H ∧ ∀ H', Q (.bl true) H'
theorem ok_L_law (T : Txt K mg) (U : TxE P K mg) {c PT : Addr} (C : CodeAt K "_law_refused_right" "_law_refused_right" s_L_refused_right T.L_refused_right.f T.L_refused_right.fd c) (TB : LamX.TabB base mg c PT) :
    FnOk P w K mg base CX0 12 T.L_law.f T.L_law.fd ["_law_script"] (spLaw K PT) := by
  refine T.L_law.F.ok sc_L_law (fun vs H Q E h => ?_) (fun cdv A outer s H vs Q E hr h => ?_)
  · obtain ⟨l, ns, rfl, _⟩ := h
    rfl
  · obtain ⟨l, ns, rfl, hl, hT, k⟩ := h
    refine ⟨_, (pss_cons (ps_if (pt_not (pt_val (pe_call (ok_L_forty_right T U) (hr.mono (by decide)) (by rfl) T.L_forty_right.g T.L_forty_right.F.kp T.L_forty_right.b .nil pass0 (pa_cons (pe_call (ok_L_source T) (hr.mono (by decide)) (by rfl) T.L_source.g T.L_source.F.kp T.L_source.b .nil pass0 (pa_cons (pv 0) (pa_cons pe_int pa_nil))) pa_nil)))) (pss_one (ps_ret pe_bl)) pss_nil)
      (pss_cons (ps_for PassesOwn.never rfl (pi_range1 (by rfl) T.m_range (pa_cons (pe_op op_add pe_int (pe_callB (call_min2 rfl) (by rfl) T.m_min (by decide +kernel) (pa_cons (pe_callB call_len_seq (by rfl) T.m_len PySem.boot_len (pa_cons (pv 0) pa_nil)) (pa_cons pe_int pa_nil)))) pa_nil)) (pg_name (i := 1) sc_L_law.nd rfl (Or.inl rfl)) (pss_cons (ps_set (i := 2) sc_L_law.nd rfl (Or.inr rfl) (pe_call (ok_L_source T) (hr.mono (by decide)) (by rfl) T.L_source.g T.L_source.F.kp T.L_source.b .nil pass0 (pa_cons (pv 0) (pa_cons (pv 1) pa_nil))))
      (pss_cons (ps_set (i := 3) sc_L_law.nd rfl (Or.inl rfl) (pe_call (ok_L_few_forms T) (hr.mono (by decide)) (by rfl) T.L_few_forms.g T.L_few_forms.F.kp T.L_few_forms.b .nil pass0 (pa_cons (pv 2) pa_nil)))
      (pss_cons (ps_for PassesOwn.never rfl (pi_list (pe_slice sl_list (pv 3) po_none (po_some pe_int))) (pg_name (i := 4) sc_L_law.nd rfl (Or.inl rfl)) (pss_one (ps_for PassesOwn.never rfl (pi_list (pe_op op_cat (pe_lc (own := [("_law_form", 10)]) (g := gName 10) (tt := tYes) rfl sc_L_law.nd (pi_list (pe_slice sl_list (pv 3) po_none (po_some pe_int))) (blkOk_by (own := [("_law_form", 10)]) (N := ["_law_script", "_law_turn", "_law_draws", "_law_forms", "_law_one", "_law_other", "_law_found", "_law_least", "_law_handed_here", "_law_part", "_law_form"]) (sc := defScope s_L_law) (by decide +kernel)) (fun _ _ _ _ _ => pg_name (i := 10) sc_L_law.nd rfl (Or.inl rfl)) (fun _ _ _ _ _ => pts_nil) (fun _ _ _ _ _ => (pv 10))) (pe_lst (pa_cons (pe_call (ok_L_some_form T) (hr.mono (by decide)) (by rfl) T.L_some_form.g T.L_some_form.F.kp T.L_some_form.b .nil pass0 (pa_cons (pv 2) pa_nil)) pa_nil)))) (pg_name (i := 5) sc_L_law.nd rfl (Or.inl rfl)) (pss_cons (ps_set (i := 6) sc_L_law.nd rfl (Or.inl rfl) (pe_lst (pa_cons (pe_call (ok_where_upto T U) (hr.mono (by decide)) (by rfl) T.where_upto.g T.where_upto.F.kp T.where_upto.b .nil passL (pa_cons (pe_call (ok_L_handed T) (hr.mono (by decide)) (by rfl) T.L_handed.g T.L_handed.F.kp T.L_handed.b .nil pass0 (pa_cons (pv 2) (pa_cons (pv 4) pa_nil))) (pa_cons (pe_call (ok_L_handed T) (hr.mono (by decide)) (by rfl) T.L_handed.g T.L_handed.F.kp T.L_handed.b .nil pass0 (pa_cons (pv 2) (pa_cons (pv 5) pa_nil))) pa_nil))) pa_nil)))
      (pss_cons (ps_expr (pe_bm PySem.F.plainAttrs_list PySem.F.slot_list_append PySem.F.type_list_append mt_append (pv 6) (pa_cons (pe_call (ok_where_below T U) (hr.mono (by decide)) (by rfl) T.where_below.g T.where_below.F.kp T.where_below.b .nil passL (pa_cons (pe_call (ok_L_handed T) (hr.mono (by decide)) (by rfl) T.L_handed.g T.L_handed.F.kp T.L_handed.b .nil pass0 (pa_cons (pv 2) (pa_cons (pv 4) pa_nil))) (pa_cons (pe_call (ok_L_handed T) (hr.mono (by decide)) (by rfl) T.L_handed.g T.L_handed.F.kp T.L_handed.b .nil pass0 (pa_cons (pv 2) (pa_cons (pv 5) pa_nil))) pa_nil))) pa_nil)))
      (pss_one (ps_if (pt_not (pt_val (pe_call (ok_L_same T) (hr.mono (by decide)) (by rfl) T.L_same.g T.L_same.F.kp T.L_same.b .nil pass0 (pa_cons (pv 6) (pa_cons (pe_lst (pa_cons (pe_call (ok_L_upto T) (hr.mono (by decide)) (by rfl) T.L_upto.g T.L_upto.F.kp T.L_upto.b .nil pass0 (pa_cons (pv 4) (pa_cons (pv 5) pa_nil))) (pa_cons (pe_call (ok_L_below T) (hr.mono (by decide)) (by rfl) T.L_below.g T.L_below.F.kp T.L_below.b .nil pass0 (pa_cons (pv 4) (pa_cons (pv 5) pa_nil))) pa_nil))) pa_nil))))) (pss_one (ps_ret pe_bl)) pss_nil)))))))
      (pss_cons (ps_setLc (i := 7) (own := [("_law_part", 9), ("_law_form", 10)]) (g := gTup K 2 (gCons (gName 9) (gCons (gName 10) gNil))) (tt := tYes) (by rfl) sc_L_law.nd rfl rfl (sw_true rfl rfl rfl (by decide +kernel)) (pi_list (pe_call (ok_L_envelope T) (hr.mono (by decide)) (by rfl) T.L_envelope.g T.L_envelope.F.kp T.L_envelope.b .nil pass0 (pa_cons (pe_lc (own := [("_law_form", 10)]) (g := gName 10) (tt := tYes) rfl sc_L_law.nd (pi_list (pv 3)) (blkOk_by (own := [("_law_form", 10)]) (N := ["_law_script", "_law_turn", "_law_draws", "_law_forms", "_law_one", "_law_other", "_law_found", "_law_least", "_law_handed_here", "_law_part", "_law_form"]) (sc := defScope s_L_law) (by decide +kernel)) (fun _ _ _ _ _ => pg_name (i := 10) sc_L_law.nd rfl (Or.inl rfl)) (fun _ _ _ _ _ => pts_nil) (fun _ _ _ _ _ => (pe_call (ok_L_turned T) (hr.mono (by decide)) (by rfl) T.L_turned.g T.L_turned.F.kp T.L_turned.b .nil pass0 (pa_cons (pv 10) pa_nil)))) pa_nil))) (blkOk_by (own := [("_law_part", 9), ("_law_form", 10)]) (N := ["_law_script", "_law_turn", "_law_draws", "_law_forms", "_law_one", "_law_other", "_law_found", "_law_least", "_law_handed_here", "_law_part", "_law_form"]) (sc := defScope s_L_law) (by decide +kernel)) (fun _ _ _ _ _ => pg_tup rfl (pgs_cons (pg_name (i := 9) sc_L_law.nd rfl (Or.inl rfl)) (pgs_cons (pg_name (i := 10) sc_L_law.nd rfl (Or.inl rfl)) pgs_nil))) (fun _ _ _ _ _ => pts_nil) (fun _ _ _ _ _ => (pe_tup (pa_cons (pv 9) (pa_cons (pe_call (ok_L_turned T) (hr.mono (by decide)) (by rfl) T.L_turned.g T.L_turned.F.kp T.L_turned.b .nil pass0 (pa_cons (pv 10) pa_nil)) pa_nil)))))
      (pss_cons (ps_setLc (i := 8) (own := [("_law_form", 10)]) (g := gName 10) (tt := tYes) (by rfl) sc_L_law.nd rfl rfl (sw_true rfl rfl rfl (by decide +kernel)) (pi_list (pv 3)) (blkOk_by (own := [("_law_form", 10)]) (N := ["_law_script", "_law_turn", "_law_draws", "_law_forms", "_law_one", "_law_other", "_law_found", "_law_least", "_law_handed_here", "_law_part", "_law_form"]) (sc := defScope s_L_law) (by decide +kernel)) (fun _ _ _ _ _ => pg_name (i := 10) sc_L_law.nd rfl (Or.inl rfl)) (fun _ _ _ _ _ => pts_nil) (fun _ _ _ _ _ => (pe_call (ok_L_handed T) (hr.mono (by decide)) (by rfl) T.L_handed.g T.L_handed.F.kp T.L_handed.b .nil pass0 (pa_cons (pv 2) (pa_cons (pv 10) pa_nil)))))
      (pss_cons (ps_set (i := 6) sc_L_law.nd rfl (Or.inl rfl) (pe_lst (pa_cons (pe_call (ok_greatest_form T U) (hr.mono (by decide)) (by rfl) T.greatest_form.g T.greatest_form.F.kp T.greatest_form.b .nil passL (pa_cons (pe_call (ok_L_pick T) (hr.mono (by decide)) (by rfl) T.L_pick.g T.L_pick.F.kp T.L_pick.b .nil pass0 (pa_cons (pv 2) (pa_cons (pe_lst (pa_cons (pv 8) (pa_cons (pe_callTy call_tuple_of (by rfl) T.m_tuple (by decide +kernel) (pa_cons (pv 8) pa_nil)) pa_nil))) pa_nil))) pa_nil)) (pa_cons (pe_call (ok_least_form T U) (hr.mono (by decide)) (by rfl) T.least_form.g T.least_form.F.kp T.least_form.b .nil passL (pa_cons (pv 8) pa_nil)) pa_nil))))
      (pss_cons (ps_if (pt_not (pt_val (pe_call (ok_L_same T) (hr.mono (by decide)) (by rfl) T.L_same.g T.L_same.F.kp T.L_same.b .nil pass0 (pa_cons (pv 6) (pa_cons (pe_lst (pa_cons (pe_call (ok_L_envelope T) (hr.mono (by decide)) (by rfl) T.L_envelope.g T.L_envelope.F.kp T.L_envelope.b .nil pass0 (pa_cons (pv 3) pa_nil)) (pa_cons (pv 7) pa_nil))) pa_nil))))) (pss_one (ps_ret pe_bl)) pss_nil)
      (pss_cons (ps_expr (pe_bm PySem.F.plainAttrs_list PySem.F.slot_list_append PySem.F.type_list_append mt_append (pe_ix ix_list (pv 6) pe_int (fun _ _ => rfl)) (pa_cons pe_str pa_nil)))
      (pss_cons (ps_expr (pe_bm PySem.F.plainAttrs_list PySem.F.slot_list_append PySem.F.type_list_append mt_append (pe_ix ix_list (pv 6) pe_int (fun _ _ => rfl)) (pa_cons pe_str pa_nil)))
      (pss_cons (ps_if (pt_not (pt_val (pe_call (ok_L_same T) (hr.mono (by decide)) (by rfl) T.L_same.g T.L_same.F.kp T.L_same.b .nil pass0 (pa_cons (pe_lst (pa_cons (pe_call (ok_greatest_form T U) (hr.mono (by decide)) (by rfl) T.greatest_form.g T.greatest_form.F.kp T.greatest_form.b .nil passL (pa_cons (pv 3) pa_nil)) (pa_cons (pe_call (ok_least_form T U) (hr.mono (by decide)) (by rfl) T.least_form.g T.least_form.F.kp T.least_form.b .nil passL (pa_cons (pv 3) pa_nil)) pa_nil))) (pa_cons (pe_lst (pa_cons (pe_call (ok_L_envelope T) (hr.mono (by decide)) (by rfl) T.L_envelope.g T.L_envelope.F.kp T.L_envelope.b .nil pass0 (pa_cons (pv 3) pa_nil)) (pa_cons (pv 7) pa_nil))) pa_nil))))) (pss_one (ps_ret pe_bl)) pss_nil)
      (pss_one (ps_if (PW.pt (pw_and (pt_cmpR op_eq (pv 1) pe_int (nomark _)) (pw_and1 (pt_not (pt_val (pe_call (ok_L_refused_right T U C TB) (hr.mono (by decide)) (by rfl) T.L_refused_right.g T.L_refused_right.F.kp T.L_refused_right.b .nil pass0 (pa_cons (pv 2) (pa_cons (pv 3) pa_nil)))))))) (pss_one (ps_ret pe_bl)) pss_nil)))))))))))))
      (pss_one (ps_ret pe_bl)))), ?_⟩
    refine ⟨_, rfl, l, ns, 7, rfl, hl, by decide, fun a0 H0 s00 n00 hD0 => ⟨a0, rfl, hD0, fun Hs w0 => ⟨_, rfl, iteF ?_⟩⟩⟩
    have eS : LamX.ExtN H Hs := ext_dw s00 n00 w0
    have TS : LamX.Tabs (LamT PT) Hs := tabs_dw hD0 w0 (hT.ext s00)
    have hlS := seqN eS hl
    clear eS s00 n00 hD0 w0 hT
    have hmin : ∃ m : Nat, m ≤ 3 ∧ (if (3 : Int) < ((ns.map V.int).length : Nat) then (3 : Int) else ((ns.map V.int).length : Nat)) = (m : Int) := by
      by_cases h3 : (3 : Int) < ((ns.map V.int).length : Nat)
      · exact ⟨3, by decide, if_pos h3⟩
      · exact ⟨(ns.map V.int).length, by omega, if_neg h3⟩
    obtain ⟨m, hm, em⟩ := hmin
    refine ⟨_, rfl, _, _, rfl, .inl hlS, _, _, rfl, ?_⟩
    rw [em]
    refine ⟨_, _, rfl, rfl, ((3 + m : Nat) : Int), by rw [Int.natCast_add]; rfl, by omega, by omega, for_range (lo := 0) (n := (((3 + m : Nat) : Int)).toNat) (fun i σ H' => LamX.ExtN Hs H' ∧ LamX.Tabs (LamT PT) H' ∧ ∃ y1 y2 y3 y4 y5 y6 y7 y8 y9 y10, σ = [some (.ref l), y1, y2, y3, y4, y5, y6, y7, y8, y9, y10])
      ⟨LamX.ExtN.refl _, TS, none, none, none, none, none, none, none, none, none, none, rfl⟩ ?_ ?_⟩
    · rintro t σ H0 ht ⟨e0, T0, y1, y2, y3, y4, y5, y6, y7, y8, y9, y10, rfl⟩
      rw [Int.toNat_natCast] at ht
      rw [Int.zero_add]
      refine ⟨_, rfl, _, rfl, l, ns, t, rfl, seqN e0 hlS, by omega, fun a H1 s01 na D1 => ?_⟩
      have T1 := T0.ext s01
      have e1 : ∀ {H'}, Dw a H1 H' → LamX.ExtN Hs H' := fun w => e0.trans (ext_dw s01 na w)
      refine ⟨_, rfl, a, rfl, D1, fun rf H2 xs fs w12 nrf hrf hxs hne hsz hlen => ?_⟩
      have D2 := w12.dr
      have nfa : rf ≠ a := D1.ne nrf
      have hxl := Paired.length hxs
      refine ⟨_, rfl, 3, rfl, rf, xs, rfl, SqL.of hrf, fun l3 nl3 => ?_⟩
      have s23 := same_upd (o := .lst (cutV xs none (some 3))) nl3
      have hl3 := upd_same (H := H2) (a := l3) (o := .lst (cutV xs none (some 3)))
      have w13 : Dw a H1 (upd H2 l3 (.lst (cutV xs none (some 3)))) := w12.trans (Dw.of D2 s23)
      have nl3a : l3 ≠ a := D2.ne nl3
      have hrf3 := s23 _ _ hrf
      have hxs3 : Paired (FmV K (upd H2 l3 (.lst (cutV xs none (some 3))))) xs fs := Paired.imp (fun _ _ h => h.keep (.of s23)) hxs
      generalize upd H2 l3 (.lst (cutV xs none (some 3))) = H3 at hl3 w13 hrf3 hxs3 s23 ⊢
      have D3 := w13.dr
      clear hxs hrf w12 s23 nl3
      have memx : ∀ {lo hi : Option Int} {v : V}, v ∈ cutV xs lo hi → v ∈ xs := fun {lo hi v} hv => by
        unfold cutV at hv
        exact List.mem_of_mem_drop (List.mem_of_mem_take hv)
      refine ⟨l3, rfl, ⟨_, SqL.of hl3⟩, for_list (K := K) (a := l3) (xs := cutV xs none (some 3)) (fun i σ H' => Dw a H3 H' ∧ ∃ y4 y5 y6, σ = [some (.ref l), some (.int (t : Nat)), some (.ref a), some (.ref rf), y4, y5, y6, y7, y8, y9, y10])
        ⟨Dw.refl D3, _, _, _, rfl⟩ (fun i σ H' _ ⟨w, _⟩ => SqL.of (w.keep _ _ nl3a hl3)) ?_ ?_⟩
      · rintro i x σ H4 hi ⟨w34, y4, y5, y6, rfl⟩
        obtain ⟨f1, hx3, szx⟩ := paired_mem hxs3 hsz x (memx (List.mem_of_getElem? hi))
        have D4 := w34.dr
        have hrf4 := w34.keep _ _ nfa hrf3
        refine ⟨_, rfl, 4, rfl, rf, xs, rfl, SqL.of hrf4, fun l4 nl4 => ⟨l4, rfl, ⟨_, SqL.of upd_same⟩, fun D nD => lc_list (K := K) (a := l4) (xs := cutV xs none (some 4)) (fun i H' => Same (upd H4 l4 (.lst (cutV xs none (some 4)))) H' ∧ H' D = some (.lst ((cutV xs none (some 4)).take i))) ⟨same_upd nD, upd_same⟩ (fun i H' _ ⟨e, _⟩ => e.seq (SqL.of upd_same)) ?_ ?_⟩⟩
        · rintro i z H5 hi2 ⟨e5, hDD⟩
          refine ⟨rfl, _, rfl, _, hDD, small1000 ?_, ?_, ?_⟩
          · have := cutV_length xs none (some 4)
            rw [List.length_take]
            omega
          · intro b o hb
            rw [upd_ne (ne_of_none hb nD)]
            exact e5 _ _ hb
          · rw [upd_same, take_more hi2]
        · rintro H6 ⟨s46, hDD⟩
          rw [List.take_length] at hDD
          have q4 := same_upd (o := .lst (cutV xs none (some 4))) nl4
          have w46 : Dw a H4 H6 := Dw.of D4 (q4.trans s46)
          have nDa : D ≠ a := (D4.same q4).ne nD
          refine ⟨_, rfl, a, rfl, w46.dr, fun v f H7 w67 fv szv => ⟨sz1, fun u nu => ?_⟩⟩
          have q7 := same_upd (o := .lst [v]) nu
          have hD8 := q7 _ _ (w67.keep _ _ nDa hDD)
          have clen := cutV_length xs none (some 4)
          refine ⟨D, u, _, _, rfl, rfl, hD8, upd_same, Nat.le_trans (show _ ≤ 1000 from by simp only [List.length_cons, List.length_nil]; omega) (by decide), fun cc ncc => ?_⟩
          have q8 := same_upd (o := .lst (cutV xs none (some 4) ++ [v])) ncc
          have w39 : Dw a H3 _ := w34.trans (w46.trans (w67.trans (Dw.of w67.dr (q7.trans q8))))
          have ncca : cc ≠ a := (w67.dr.same q7).ne ncc
          have hcc := upd_same (H := upd H7 u (.lst [v])) (a := cc) (o := .lst (cutV xs none (some 4) ++ [v]))
          have fv9 := fv.keep (.of (q7.trans q8))
          generalize upd (upd H7 u (.lst [v])) cc (.lst (cutV xs none (some 4) ++ [v])) = H9 at q8 w39 hcc fv9 ⊢
          have D9 := w39.dr
          have hx9 := hx3.keep (w39.tups D3)
          have hxs9 : Paired (FmV K H9) xs fs := Paired.imp (fun _ _ h => h.keep (w39.tups D3)) hxs3
          refine ⟨cc, rfl, ⟨_, SqL.of hcc⟩, for_list (K := K) (a := cc) (xs := cutV xs none (some 4) ++ [v]) (fun i σ H' => Dw a H9 H' ∧ ∃ y5 y6, σ = [some (.ref l), some (.int (t : Nat)), some (.ref a), some (.ref rf), some x, y5, y6, y7, y8, y9, y10])
            ⟨Dw.refl D9, _, _, rfl⟩ (fun i σ H' _ ⟨w, _⟩ => SqL.of (w.keep _ _ ncca hcc)) ?_ ?_⟩
          · rintro j y σ K0 hj ⟨v0, y5, y6, rfl⟩
            obtain ⟨f2, hy9, szy⟩ : ∃ f2, FmV K H9 y f2 ∧ SzF 200 f2 := by
              rcases List.mem_append.mp (List.mem_of_getElem? hj) with h | h
              · exact paired_mem hxs9 hsz y (memx h)
              · obtain rfl := List.mem_singleton.mp h
                exact ⟨f, fv9, szv⟩
            have z1 : SzF 240 f1 := ⟨szx.1.mono (by decide), szx.2.mono (by decide)⟩
            have z2 : SzF 240 f2 := ⟨szy.1.mono (by decide), szy.2.mono (by decide)⟩
            have fx : ∀ {H'}, Dw a H9 H' → FmV K H' x f1 := fun w => hx9.keep (w.tups D9)
            have fy : ∀ {H'}, Dw a H9 H' → FmV K H' y f2 := fun w => hy9.keep (w.tups D9)
            -- where_upto
            refine ⟨_, rfl, _, rfl, a, x, f1, rfl, v0.dr, fx v0, szx, fun v1 d1 K1 w1 fo1 dt1 => ⟨_, rfl, _, rfl, a, y, f2, rfl, w1.dr, fy (v0.trans w1), szy, fun v2 d2 K2 w2 fo2 dt2 =>
              ⟨v1, v2, d1, d2, rfl, (dt1.k (newOf_dw v0.dr w2)).k newOf_all, dt2.k newOf_all, .inl ⟨f1, f2, fo1, fo2, fun r1 K3 zs1 s3 nr1 hr1 p1 => ⟨sz1, fun q nq => ?_⟩⟩⟩⟩⟩
            have v2' := v0.trans (w1.trans w2)
            have v3 := v2'.trans (Dw.of v2'.dr s3)
            have x4 := same_upd (o := .lst [V.ref r1]) nq
            have v4 := v3.trans (Dw.of v3.dr x4)
            have nqa : q ≠ a := v3.dr.ne nq
            have n1a : r1 ≠ a := v2'.dr.ne nr1
            have nq9 : H9 q = none := v3.free nq
            have hq4 := upd_same (H := K3) (a := q) (o := .lst [V.ref r1])
            have hr14 := x4 _ _ hr1
            have p14 : Paired (StV K (upd K3 q (.lst [V.ref r1]))) zs1 _ := Paired.imp (fun _ _ h => StV.keep (.of x4) h) p1
            have n1q : r1 ≠ q := fun z => by rw [← z, hr1] at nq; cases nq
            generalize upd K3 q (.lst [V.ref r1]) = K4 at v4 hq4 hr14 p14 ⊢
            clear dt1 dt2 fo1 fo2 w1 w2 v2' v3 x4 hr1 p1 s3
            -- where_below
            refine ⟨_, rfl, .inl ⟨rfl, _, SqL.of hq4⟩, _, rfl, _, rfl, a, x, f1, rfl, v4.dr, fx v4, szx, fun v1 d1 K5 w1 fo1 dt1 => ⟨_, rfl, _, rfl, a, y, f2, rfl, w1.dr, fy (v4.trans w1), szy, fun v2 d2 K6 w2 fo2 dt2 =>
              ⟨v1, v2, d1, d2, rfl, (dt1.k (newOf_dw v4.dr w2)).k newOf_all, dt2.k newOf_all, .inl ⟨f1, f2, fo1, fo2, fun r2 K7 zs2 s7 nr2 hr2 p2 => ?_⟩⟩⟩⟩
            have w46 := w1.trans w2
            have w47 := w46.trans (Dw.of w46.dr s7)
            have v7 := v4.trans w47
            have hq7 := w47.keep _ _ nqa hq4
            have hr17 := w47.keep _ _ n1a hr14
            have p17 : Paired (StV K K7) zs1 _ := Paired.imp (fun _ _ h => StV.keep (w47.tups v4.dr) h) p14
            have n2q : r2 ≠ q := fun z => by rw [z, w46.keep _ _ nqa hq4] at nr2; cases nr2
            refine ⟨q, _, _, rfl, rfl, hq7, small1000 (by show 1 ≤ 1000; decide), ?_⟩
            have tq := tups_lst (o := .lst ([V.ref r1] ++ [V.ref r2])) hq7
            have v8 := dw_app (o := .lst ([V.ref r1] ++ [V.ref r2])) v7 nq9 nqa
            have hr18 : upd K7 q (.lst ([V.ref r1] ++ [V.ref r2])) r1 = some (.lst zs1) := by rw [upd_ne n1q]; exact hr17
            have hr28 : upd K7 q (.lst ([V.ref r1] ++ [V.ref r2])) r2 = some (.lst zs2) := by rw [upd_ne n2q]; exact hr2
            have hq8 : upd K7 q (.lst ([V.ref r1] ++ [V.ref r2])) q = some (.lst [V.ref r1, V.ref r2]) := upd_same
            have p18 : Paired (StV K (upd K7 q (.lst ([V.ref r1] ++ [V.ref r2])))) zs1 _ := Paired.imp (fun _ _ h => StV.keep tq h) p17
            have p28 : Paired (StV K (upd K7 q (.lst ([V.ref r1] ++ [V.ref r2])))) zs2 _ := Paired.imp (fun _ _ h => StV.keep tq h) p2
            generalize upd K7 q (.lst ([V.ref r1] ++ [V.ref r2])) = K8 at v8 hr18 hr28 hq8 p18 p28 ⊢
            clear dt1 dt2 fo1 fo2 w1 w2 w46 w47 v7 hq7 hr17 p17 tq hr2 p2 s7
            -- the law's own
            refine ⟨_, rfl, _, rfl, _, rfl, x, y, f1, f2, rfl, fx v8, fy v8, z1, z2, fun r3 K9 zs3 s9 nr3 hr3 p3 => ?_⟩
            have v9 := v8.trans (Dw.of v8.dr s9)
            refine ⟨_, rfl, _, rfl, x, y, f1, f2, rfl, fx v9, fy v9, z1, z2, fun r4 K10 zs4 s10 nr4 hr4 p4 => ⟨sz2, fun q2 nq2 => ?_⟩⟩
            have x11 := same_upd (o := .lst [V.ref r3, V.ref r4]) nq2
            have s8A := s9.trans (s10.trans x11)
            refine ⟨.ref q, .ref q2, .list [.list ((KM.lUpto f1 f2).map stD), .list ((KM.lBelow f1 f2).map stD)], rfl, ?_, ?_, ?_, fun K' s' => ⟨_, rfl, iteF ⟨v8.trans (Dw.of v8.dr (s8A.trans s')), _, _, rfl⟩⟩⟩
            · exact Dat.k s8A (.lst hq8 (.cons (.lst hr18 (sts_dat p18)) (.cons (.lst hr28 (sts_dat p28)) .nil)))
            · exact .lst upd_same (.cons ((Dat.lst hr3 (sts_dat p3)).k (s10.trans x11)) (.cons ((Dat.lst hr4 (sts_dat p4)).k x11) .nil))
            · exact dep_seq rfl (by show 2 ≤ 999; decide) (dep_cons (dep_seq rfl (by rw [List.length_map]; exact upto_len _ _) (dep_map fun p => dep_stD p)) (dep_cons (dep_seq rfl (by rw [List.length_map]; exact below_len _ _) (dep_map fun p => dep_stD p)) dep_nil))
          · rintro σ K0 ⟨v0, y5, y6, rfl⟩
            exact ⟨w39.trans v0, _, _, _, rfl⟩
      · rintro σ H4 ⟨w34, y4, y5, y6, rfl⟩
        have hrf4 := w34.keep _ _ nfa hrf3
        have hxs4 : Paired (FmV K H4) xs fs := Paired.imp (fun _ _ h => h.keep (w34.tups D3)) hxs3
        have w14 := w13.trans w34
        have D4 := w34.dr
        have hz240 : ∀ f ∈ fs, SzF 240 f := fun f hf => ⟨(hsz f hf).1.mono (by decide), (hsz f hf).2.mono (by decide)⟩
        clear hrf3 hxs3 hl3 nl3a w34 w13 D3 memx
        have hml : (fs.map negF).length = fs.length := List.length_map ..
        have hmz : ∀ f ∈ fs.map negF, SzF 240 f := fun f hf => by
          obtain ⟨g, hg, rfl⟩ := List.mem_map.mp hf
          exact neg_sz (hz240 g hg)
        have hmne : fs.map negF ≠ [] := by simpa using hne
        -- the turned forms
        refine ⟨_, rfl, rf, rfl, ⟨_, SqL.of hrf4⟩, fun Dt nDt => lc_list (K := K) (a := rf) (xs := xs) (fun i H' => Same H4 H' ∧ ∃ acc, H' Dt = some (.lst acc) ∧ Paired (FmV K H') acc ((fs.take i).map negF)) ⟨same_upd nDt, [], upd_same, .nil⟩ (fun i H' _ ⟨e, _⟩ => e.seq (SqL.of hrf4)) ?_ ?_⟩
        · rintro i x H6 hi ⟨e6, acc, hDD, hacc⟩
          obtain ⟨f, hf, fx⟩ := Paired.get hxs4 hi
          refine ⟨rfl, _, rfl, _, _, rfl, fx.keep (.of e6), fun v2 H7 s7 hv2 => ?_⟩
          have hD7 := s7 _ _ hDD
          have hal := Paired.length hacc
          rw [List.length_map, List.length_take] at hal
          refine ⟨acc, hD7, small1000 (by omega), ?_, acc ++ [v2], upd_same, ?_⟩
          · intro b o hb
            rw [upd_ne (ne_of_none hb nDt)]
            exact s7 _ _ (e6 _ _ hb)
          · rw [take_more hf, List.map_append]
            have t4 := tups_lst (o := .lst (acc ++ [v2])) hD7
            exact Paired.append (Paired.imp (fun a g h => (h.keep (.of s7)).keep t4) hacc) (Paired.one (hv2.keep t4))
        · rintro H5 ⟨s45, acc, hDD, hacc⟩
          rw [hxl, List.take_length] at hacc
          refine ⟨Dt, acc, fs.map negF, rfl, SqL.of hDD, hacc, hmne, hmz, by omega, fun re H6 es s6 nre hre hes => ?_⟩
          have hpl := Paired.length hes
          have s46 := s45.trans s6
          have hout : (outlAll (fs.map negF)).length ≤ 999 := by
            have : ∀ n s c, (KM.outl (fs.map negF) n s c).length ≤ n := by
              intro n
              induction n with
              | zero => intro s c; exact Nat.le_refl _
              | succ n ih =>
                intro s c
                unfold KM.outl
                split
                · simp
                · rw [List.length_cons]
                  have := ih ‹Rat› false
                  omega
            have := this ((fs.map negF).length + 1) 0 true
            unfold outlAll
            omega
          have hlen2 : (outlAll fs).length ≤ 999 := by
            have : ∀ n s c, (KM.outl fs n s c).length ≤ n := by
              intro n
              induction n with
              | zero => intro s c; exact Nat.le_refl _
              | succ n ih =>
                intro s c
                unfold KM.outl
                split
                · simp
                · rw [List.length_cons]
                  have := ih ‹Rat› false
                  omega
            have := this (fs.length + 1) 0 true
            unfold outlAll
            omega
          refine ⟨re, rfl, ⟨_, SqL.of hre⟩, fun Dl nDl => lc_list (K := K) (a := re) (xs := es) (fun i H' => Same H6 H' ∧ ∃ acc, H' Dl = some (.lst acc) ∧ Paired (PcV K H') acc (((outlAll (fs.map negF)).take i).map negP)) ⟨same_upd nDl, [], upd_same, .nil⟩ (fun i H' _ ⟨e, _⟩ => e.seq (SqL.of hre)) ?_ ?_⟩
          · rintro i x H7 hi ⟨e4, acc2, hD2, hacc2⟩
            obtain ⟨p, hpi, px⟩ := Paired.get hes hi
            obtain ⟨q, tt, a1, hh, b, rfl, hq1, htt, ha, hhh, hb⟩ := px.keep (.of e4)
            refine ⟨q, _, rfl, hq1, rfl, _, _, rfl, _, _, rfl, rfl, rfl, ?_⟩
            refine ⟨_, rfl, _, rfl, _, _, rfl, hb, fun v6 H8 s8 hv6 => ⟨sz2, fun t7 n7 => ?_⟩⟩
            have s7 := same_upd (o := .tup [V.ref tt, v6]) n7
            have s57 := s8.trans s7
            have hD7 := s57 _ _ hD2
            have hal := Paired.length hacc2
            rw [List.length_map, List.length_take] at hal
            refine ⟨acc2, hD7, small1000 (by omega), ?_, acc2 ++ [V.ref t7], upd_same, ?_⟩
            · intro b o hb
              rw [upd_ne (ne_of_none hb nDl)]
              exact s57 _ _ (e4 _ _ hb)
            · rw [take_more hpi, List.map_append]
              have t8 := tups_lst (o := .lst (acc2 ++ [V.ref t7])) hD7
              refine Paired.append (Paired.imp (fun a g h => (PcV.keep (.of s57) h).keep t8) hacc2) (Paired.one ?_)
              exact ⟨t7, tt, _, _, _, rfl, t8.sqT (.inl (.inl upd_same)), t8.sqT (s57.sqT htt), (ha.keep (.of s57)).keep t8, (hhh.keep (.of s57)).keep t8, (hv6.keep (.of s7)).keep t8⟩
          · rintro H7 ⟨s67, ls, hls, pls⟩
            rw [hpl, List.take_length, show (outlAll (fs.map negF)).map negP = leastAll fs from rfl] at pls
            have s47 := s46.trans s67
            have w17 := w14.trans (Dw.of D4 s47)
            have D7 := w17.dr
            have nDla : Dl ≠ a := (D4.same s46).ne nDl
            have hrf7 := s47 _ _ hrf4
            have hxs7 : Paired (FmV K H7) xs fs := Paired.imp (fun _ _ h => h.keep (.of s47)) hxs4
            clear hxs4 hrf4 hes hre hacc hDD s45 s6 s46 s67 s47 w14 D4 hpl nDl nDt nre
            -- handed_here
            refine ⟨_, rfl, rf, rfl, ⟨_, SqL.of hrf7⟩, fun Dh nDh => lc_list (K := K) (a := rf) (xs := xs) (fun i H' => Dw a H7 H' ∧ ∃ acc ds, H' Dh = some (.lst acc) ∧ Paired FormOf ds (fs.take i) ∧ DatAll K (Away (fun b => (H7 b).isSome || decide (b = Dh)) H') acc ds)
              ⟨Dw.of D7 (same_upd nDh), [], [], upd_same, .nil, .nil⟩ (fun i H' _ ⟨w, _⟩ => SqL.of (w.keep _ _ nfa hrf7)) ?_ ?_⟩
            · rintro i x H8 hi ⟨w8, acc, ds, hDD, hfs, hacc⟩
              obtain ⟨f, hf, fx⟩ := Paired.get hxs7 hi
              have nDa : Dh ≠ a := D7.ne nDh
              refine ⟨rfl, _, rfl, _, rfl, a, x, f, rfl, w8.dr, fx.keep (w8.tups D7), hsz f (List.mem_of_getElem? hf), fun v' d' H9 w9 fo hd9 => ?_⟩
              have hD9 := w9.keep Dh _ nDa hDD
              have l1 := Paired.length hfs
              have l2 := hacc.length
              rw [List.length_take] at l1
              refine ⟨acc, hD9, small1000 (by omega), ⟨fun b o nb e => ?_, ?_⟩, acc ++ [v'], ds ++ [d'], upd_same, ?_, ?_⟩
              · rw [upd_ne (ne_of_none e nDh)]
                exact w9.keep b o nb (w8.keep b o nb e)
              · obtain ⟨c, m, n, h9⟩ := w9.dr
                exact ⟨c, m, n, by rw [upd_ne nDa.symm]; exact h9⟩
              · rw [take_more hf]
                exact Paired.append hfs (Paired.one fo)
              · refine DatAll.append (hacc.k (away_same fun b o e1 e2 => ⟨e1, ?_⟩)) (.cons (hd9.k (away_same fun b o e1 e2 => ?_)) .nil)
                · rw [Bool.or_eq_false_iff] at e1
                  have nb : b ≠ Dh := of_decide_eq_false e1.2
                  rw [upd_ne nb]
                  exact w9.keep b o (D7.ne (old_f.mp e1.1)) e2
                · have hb := old_f.mp e1
                  have nb : b ≠ Dh := fun z => by rw [z, hDD] at hb; cases hb
                  refine ⟨?_, by rw [upd_ne nb]; exact e2⟩
                  rw [Bool.or_eq_false_iff]
                  exact ⟨old_f.mpr (w8.free hb), decide_eq_false nb⟩
            · rintro H8 ⟨w8, acc, ds, hDD, hfs, hacc⟩
              rw [hxl, List.take_length] at hfs
              have dsl := Paired.length hfs
              have dsne : ds ≠ [] := fun z => by
                rw [z] at dsl
                exact hne (List.length_eq_zero_iff.mp dsl.symm)
              have nDa : Dh ≠ a := D7.ne nDh
              have hrf8 := w8.keep _ _ nfa hrf7
              have hls8 := w8.keep _ _ nDla hls
              have pls8 : Paired (PcV K H8) ls _ := Paired.imp (fun _ _ h => PcV.keep (w8.tups D7) h) pls
              have hxs8 : Paired (FmV K H8) xs fs := Paired.imp (fun _ _ h => h.keep (w8.tups D7)) hxs7
              have D8 := w8.dr
              have w18 := w17.trans w8
              have dats : ∀ {H'}, Dw a H8 H' → DatAll K H' acc ds := fun {H'} w => hacc.k fun b o e => by
                obtain ⟨e1, e2⟩ := away_some e
                rw [Bool.or_eq_false_iff] at e1
                exact w.keep b o (D7.ne (old_f.mp e1.1)) e2
              clear pls hls hxs7 hrf7
              -- found
              refine ⟨_, rfl, _, rfl, _, rfl, Dh, acc, rfl, .inl ⟨SqL.of hDD, fun tt ntt => ⟨sz2, fun ll nll => ?_⟩⟩⟩
              have b1 := same_upd (o := .tup acc) ntt
              have b2 := same_upd (o := .lst [V.ref Dh, V.ref tt]) nll
              have b12 := b1.trans b2
              refine ⟨a, ll, _, rfl, D8.same b12, SqL.of upd_same, (D8.same b1).ne nll, (by simp), (by show 2 ≤ 1000; decide), fun v H9 hv w9' => ?_⟩
              have w89 : Dw a H8 H9 := (Dw.of D8 b12).trans w9'
              obtain ⟨d, hd, hsq⟩ : ∃ d, Dat K H9 v d ∧ seqD d = some ds := by
                simp only [List.mem_cons, List.not_mem_nil, or_false] at hv
                rcases hv with rfl | rfl
                · exact ⟨.list ds, .lst (w89.keep _ _ nDa hDD) (dats w89), rfl⟩
                · exact ⟨.tuple ds, .tup ((w9'.tups (D8.same b12)).sqT (.inl (.inl (b2 _ _ upd_same)))) (dats w89), rfl⟩
              refine ⟨v, d, rfl, hd, .inl ⟨ds, fs, hsq, dsne, hfs, by omega, fun r1 H10 y1 s10 n1 h1 p1 => ?_⟩⟩
              have w8A := w89.trans (Dw.of w89.dr s10)
              refine ⟨_, rfl, .ref Dh, .list ds, rfl, .lst (w8A.keep _ _ nDa hDD) (dats w8A), .inl ⟨ds, fs, rfl, dsne, hfs, by omega, fun r2 H11 y2 s11 n2 h2 p2 => ⟨sz2, fun q nq => ?_⟩⟩⟩
              have w8B := w8A.trans (Dw.of w8A.dr s11)
              have b3 := same_upd (o := .lst [V.ref r1, V.ref r2]) nq
              have w8C := w8B.trans (Dw.of w8B.dr b3)
              have hq := upd_same (H := H11) (a := q) (o := .lst [V.ref r1, V.ref r2])
              have h1B := s11 _ _ h1
              have n1q : r1 ≠ q := fun z => by rw [z, nq] at h1B; cases h1B
              have n2q : r2 ≠ q := fun z => by rw [z, nq] at h2; cases h2
              have n12 : r1 ≠ r2 := fun z => by rw [z, n2] at h1; cases h1
              have h1C := b3 _ _ h1B
              have h2C := b3 _ _ h2
              have p1C : Paired (PcV K (upd H11 q (.lst [V.ref r1, V.ref r2]))) y1 _ := Paired.imp (fun _ _ h => PcV.keep (.of (s11.trans b3)) h) p1
              have p2C : Paired (PcV K (upd H11 q (.lst [V.ref r1, V.ref r2]))) y2 _ := Paired.imp (fun _ _ h => PcV.keep (.of b3) h) p2
              have f1 : H8 r1 = none := w89.free n1
              have f2 : H8 r2 = none := w8A.free n2
              generalize upd H11 q (.lst [V.ref r1, V.ref r2]) = H12 at w8C hq h1C h2C p1C p2C ⊢
              clear b1 b2 b12 b3 w9' hd hv s10 s11 h1 p1 h2 p2 h1B w8B w8A w89
              have fx8 : ∀ {H'}, Dw a H8 H' → Paired (FmV K H') xs fs := fun w => Paired.imp (fun _ _ h => h.keep (w.tups D8)) hxs8
              have pl8 : ∀ {H'}, Dw a H8 H' → Paired (PcV K H') ls (leastAll fs) := fun w => Paired.imp (fun _ _ h => PcV.keep (w.tups D8) h) pls8
              have len1 := Paired.length p1C
              have len2 := Paired.length p2C
              have hleast : (leastAll fs).length ≤ 999 := by
                unfold leastAll
                rw [List.length_map]
                exact hout
              have dep : Dep 9 (.list [.list ((outlAll fs).map pcD), .list ((leastAll fs).map pcD)]) :=
                dep_seq rfl (by show 2 ≤ 999; decide) (dep_cons (dep_seq rfl (by rw [List.length_map]; exact hlen2) (dep_map fun p => dep_pcD p)) (dep_cons (dep_seq rfl (by rw [List.length_map]; exact hleast) (dep_map fun p => dep_pcD p)) dep_nil))
              refine ⟨_, rfl, _, rfl, rf, xs, fs, rfl, SqL.of (w8C.keep _ _ nfa hrf8), fx8 w8C, hne, hz240, by omega, fun r3 H13 y3 s13 n3 h3 p3 => ⟨_, rfl, sz2, fun q2 nq2 => ?_⟩⟩
              have b4 := same_upd (o := .lst [V.ref r3, V.ref Dl]) nq2
              have s134 := s13.trans b4
              have w8D := w8C.trans (Dw.of w8C.dr s13)
              refine ⟨.ref q, .ref q2, .list [.list ((outlAll fs).map pcD), .list ((leastAll fs).map pcD)], rfl, Dat.k s134 (.lst hq (.cons (.lst h1C (pcs_dat p1C)) (.cons (.lst h2C (pcs_dat p2C)) .nil))),
                .lst upd_same (.cons ((Dat.lst h3 (pcs_dat p3)).k b4) (.cons ((Dat.lst (w8D.keep _ _ nDla hls8) (pcs_dat (pl8 w8D))).k b4) .nil)), dep, fun H14 s14 => ⟨_, rfl, iteF ?_⟩⟩
              have sC := s134.trans s14
              have w8E := w8C.trans (Dw.of w8C.dr sC)
              have hq14 := sC _ _ hq
              have h114 := sC _ _ h1C
              have h214 := sC _ _ h2C
              clear b4 s134 w8D s13 s14 h3 p3 sC hq h1C h2C p1C p2C w8C
              -- the returned lists are changed
              refine ⟨_, rfl, _, _, _, _, rfl, rfl, SqL.of hq14, rfl, .inl ⟨rfl, _, SqL.of h114⟩, r1, y1, _, rfl, rfl, h114, small1000 (by omega), ?_⟩
              have w8F := dw_app (o := .lst (y1 ++ [V.str "more"])) w8E f1 (D8.ne f1)
              have hq15 : upd H14 r1 (.lst (y1 ++ [V.str "more"])) q = some (.lst [V.ref r1, V.ref r2]) := by rw [upd_ne n1q.symm]; exact hq14
              have h215 : upd H14 r1 (.lst (y1 ++ [V.str "more"])) r2 = some (.lst y2) := by rw [upd_ne n12.symm]; exact h214
              generalize upd H14 r1 (.lst (y1 ++ [V.str "more"])) = H15 at w8F hq15 h215 ⊢
              refine ⟨_, rfl, _, _, _, _, rfl, rfl, SqL.of hq15, rfl, .inl ⟨rfl, _, SqL.of h215⟩, r2, y2, _, rfl, rfl, h215, small1000 (by omega), ?_⟩
              have w8G := dw_app (o := .lst (y2 ++ [V.str "more"])) w8F f2 (D8.ne f2)
              generalize upd H15 r2 (.lst (y2 ++ [V.str "more"])) = H16 at w8G ⊢
              clear hq15 h215 hq14 h114 h214 w8F w8E
              -- again, of the forms themselves
              have fl : (fs.map fmD).length ≤ 999 := by rw [List.length_map]; omega
              have fne : fs.map fmD ≠ [] := by simpa using hne
              refine ⟨_, rfl, .ref rf, .list (fs.map fmD), rfl, .lst (w8G.keep _ _ nfa hrf8) (form_dats (fx8 w8G)), .inl ⟨_, fs, rfl, fne, forms_of hz240, fl, fun r5 H17 y5 s17 n5 h5 p5 => ?_⟩⟩
              have w8H := w8G.trans (Dw.of w8G.dr s17)
              refine ⟨_, rfl, .ref rf, .list (fs.map fmD), rfl, .lst (w8H.keep _ _ nfa hrf8) (form_dats (fx8 w8H)), .inl ⟨_, fs, rfl, fne, forms_of hz240, fl, fun r6 H18 y6 s18 n6 h6 p6 => ⟨sz2, fun q3 nq3 => ?_⟩⟩⟩
              have w8I := w8H.trans (Dw.of w8H.dr s18)
              have b5 := same_upd (o := .lst [V.ref r5, V.ref r6]) nq3
              have w8J := w8I.trans (Dw.of w8I.dr b5)
              refine ⟨_, rfl, rf, xs, fs, rfl, SqL.of (w8J.keep _ _ nfa hrf8), fx8 w8J, hne, hz240, by omega, fun r7 H20 y7' s20 n7 h7 p7 => ⟨_, rfl, sz2, fun q4 nq4 => ?_⟩⟩
              have b6 := same_upd (o := .lst [V.ref r7, V.ref Dl]) nq4
              have w8K := w8J.trans (Dw.of w8J.dr s20)
              refine ⟨.ref q3, .ref q4, .list [.list ((outlAll fs).map pcD), .list ((leastAll fs).map pcD)], rfl, Dat.k (s20.trans b6) (.lst upd_same (.cons ((Dat.lst h5 (pcs_dat p5)).k (s18.trans b5)) (.cons ((Dat.lst h6 (pcs_dat p6)).k b5) .nil))),
                .lst upd_same (.cons ((Dat.lst h7 (pcs_dat p7)).k b6) (.cons ((Dat.lst (w8K.keep _ _ nDla hls8) (pcs_dat (pl8 w8K))).k b6) .nil)), dep, fun H21 s21 => ⟨_, rfl, iteF ?_⟩⟩
              have w8L := w8K.trans (Dw.of w8K.dr (b6.trans s21))
              have w1L := w18.trans w8L
              have eL := e1 w1L
              have TL := tabs_dw D1 w1L T1
              refine ⟨_, rfl, rfl, _, rfl, ?_⟩
              refine ite2 (fun hc => ?_) (fun hc => ?_)
              · refine ⟨_, rfl, _, rfl, a, rf, xs, fs, rfl, w1L.dr, w8L.keep _ _ nfa hrf8, nfa, fx8 w8L, hsz, hne, hlen, TL, fun H22 k22 T22 => ⟨_, rfl, iteF ?_⟩⟩
                exact ⟨fun b o hb kb => k22 b o (ne_of_none (e0 b o hb kb) na) (eL b o hb kb) kb, T22, _, _, _, _, _, _, _, _, _, _, rfl⟩
              · exact ⟨eL, TL, _, _, _, _, _, _, _, _, _, _, rfl⟩
    · rintro σ H0 ⟨e0, T0, _⟩
      exact k _
end
end KX
set_option Elab.async false
set_option linter.all false
set_option maxRecDepth 100000
set_option maxHeartbeats 8000000
set_option exponentiation.threshold 20000
namespace KX
open PySem PySem.Spec PyProof.Rows L2
/-- an error of a class is what the clause names, or isn't -/
theorem exm_mk {K : PySem.W.Frag} {S C : Addr} {b : Bool} (h1 : PySem.W.subIn K (.ref C) (.type "BaseException") = some true) (h2 : PySem.W.isClsIn K C = true) (h3 : PySem.W.typeIn K (.ref C) = some (.type "type")) (h4 : PySem.W.subIn K (.ref S) (.ref C) = some b) :
    PySem.W.exmOne K (.ref S) (.ref C) = some b := by
  have e1 : (PySem.W.subIn K (.ref C) (.type "BaseException") == some true) = true := by rw [h1] <;> rfl
  have e2 : ((PySem.W.clsIn K C).isSome && PySem.W.typeIn K (.ref C) == some (.type "type")) = true := by
    have h2' : (PySem.W.clsIn K C).isSome = true := h2
    rw [h2', h3] <;> rfl
  show (if (PySem.W.subIn K (.ref C) (.type "BaseException") == some true) = true then (if ((PySem.W.clsIn K C).isSome && PySem.W.typeIn K (.ref C) == some (.type "type")) = true then PySem.W.subIn K (.ref S) (.ref C) else none) else none) = some b
  rw [if_pos e1, if_pos e2]
  exact h4
def dn_mk {K : PySem.W.Frag} {h : Heap} {mg : Str → Option Value} (X : K.In h) (G : h.Ns mainGlobals mg) {x : Str} {st : Stmt} {ps : List Str} {f : Addr} {oc : Value} {od an : Option Addr} {osl : Array (Option Value)} {kV doc pm cdv ct : Value}
    (a : PySem.W.nsIn K mainGlobals x = some (some (.ref f))) (l : K.lookup f = some ⟨oc, od, .func (PySem.W.fnOf x x (defArgs st) (defBody st) (defScope st) .none kV doc pm an cdv ct), osl⟩) (c : PySem.W.codeIn K cdv x = true) (k : PySem.W.keepIn K (.ref f) = true)
    (hb : ∀ (kV doc pm : Value) (an : Option Addr) (cdv ct : Value) (us : List Value), us.length = ps.length → bindArgs (PySem.W.fnOf x x (defArgs st) (defBody st) (defScope st) .none kV doc pm an cdv ct) ⟨us, []⟩ = pure (ps.zip us)) : Dn K mg x st ps where
  f := f
  fd := PySem.W.fnOf x x (defArgs st) (defBody st) (defScope st) .none kV doc pm an cdv ct
  F := fun_mk l c k
  b := (fun_mk (st := st) l c k).binds hb
  g := PySem.W.mg_of X G a
theorem all_mk {l : PySem.W.OpenLaw} {w : World} {K : PySem.W.Frag} {h : Heap} {mg : Str → Option Value} {fa cR PT : Addr} {n : Nat} (X : K.In h) (G : h.Ns mainGlobals mg) (hfa : mg "law" = some (.ref fa))
    {f0 : Addr} {od0 an0 : Option Addr} {sl0 : Array (Option Value)} {oc0 kV0 dc0 pm0 cd0 ct0 : Value}
    {f1 : Addr} {od1 an1 : Option Addr} {sl1 : Array (Option Value)} {oc1 kV1 dc1 pm1 cd1 ct1 : Value}
    {f2 : Addr} {od2 an2 : Option Addr} {sl2 : Array (Option Value)} {oc2 kV2 dc2 pm2 cd2 ct2 : Value}
    {f3 : Addr} {od3 an3 : Option Addr} {sl3 : Array (Option Value)} {oc3 kV3 dc3 pm3 cd3 ct3 : Value}
    {f4 : Addr} {od4 an4 : Option Addr} {sl4 : Array (Option Value)} {oc4 kV4 dc4 pm4 cd4 ct4 : Value}
    {f5 : Addr} {od5 an5 : Option Addr} {sl5 : Array (Option Value)} {oc5 kV5 dc5 pm5 cd5 ct5 : Value}
    {f6 : Addr} {od6 an6 : Option Addr} {sl6 : Array (Option Value)} {oc6 kV6 dc6 pm6 cd6 ct6 : Value}
    {f7 : Addr} {od7 an7 : Option Addr} {sl7 : Array (Option Value)} {oc7 kV7 dc7 pm7 cd7 ct7 : Value}
    {f8 : Addr} {od8 an8 : Option Addr} {sl8 : Array (Option Value)} {oc8 kV8 dc8 pm8 cd8 ct8 : Value}
    {f9 : Addr} {od9 an9 : Option Addr} {sl9 : Array (Option Value)} {oc9 kV9 dc9 pm9 cd9 ct9 : Value}
    {f10 : Addr} {od10 an10 : Option Addr} {sl10 : Array (Option Value)} {oc10 kV10 dc10 pm10 cd10 ct10 : Value}
    {f11 : Addr} {od11 an11 : Option Addr} {sl11 : Array (Option Value)} {oc11 kV11 dc11 pm11 cd11 ct11 : Value}
    {f12 : Addr} {od12 an12 : Option Addr} {sl12 : Array (Option Value)} {oc12 kV12 dc12 pm12 cd12 ct12 : Value}
    {f13 : Addr} {od13 an13 : Option Addr} {sl13 : Array (Option Value)} {oc13 kV13 dc13 pm13 cd13 ct13 : Value}
    {f14 : Addr} {od14 an14 : Option Addr} {sl14 : Array (Option Value)} {oc14 kV14 dc14 pm14 cd14 ct14 : Value}
    {f15 : Addr} {od15 an15 : Option Addr} {sl15 : Array (Option Value)} {oc15 kV15 dc15 pm15 cd15 ct15 : Value}
    {f16 : Addr} {od16 an16 : Option Addr} {sl16 : Array (Option Value)} {oc16 kV16 dc16 pm16 cd16 ct16 : Value}
    {f17 : Addr} {od17 an17 : Option Addr} {sl17 : Array (Option Value)} {oc17 kV17 dc17 pm17 cd17 ct17 : Value}
    {f18 : Addr} {od18 an18 : Option Addr} {sl18 : Array (Option Value)} {oc18 kV18 dc18 pm18 cd18 ct18 : Value}
    {f19 : Addr} {od19 an19 : Option Addr} {sl19 : Array (Option Value)} {oc19 kV19 dc19 pm19 cd19 ct19 : Value}
    {f20 : Addr} {od20 an20 : Option Addr} {sl20 : Array (Option Value)} {oc20 kV20 dc20 pm20 cd20 ct20 : Value}
    {f21 : Addr} {od21 an21 : Option Addr} {sl21 : Array (Option Value)} {oc21 kV21 dc21 pm21 cd21 ct21 : Value}
    {f22 : Addr} {od22 an22 : Option Addr} {sl22 : Array (Option Value)} {oc22 kV22 dc22 pm22 cd22 ct22 : Value}
    {f23 : Addr} {od23 an23 : Option Addr} {sl23 : Array (Option Value)} {oc23 kV23 dc23 pm23 cd23 ct23 : Value}
    {f24 : Addr} {od24 an24 : Option Addr} {sl24 : Array (Option Value)} {oc24 kV24 dc24 pm24 cd24 ct24 : Value}
    {f25 : Addr} {od25 an25 : Option Addr} {sl25 : Array (Option Value)} {oc25 kV25 dc25 pm25 cd25 ct25 : Value}
    {f26 : Addr} {od26 an26 : Option Addr} {sl26 : Array (Option Value)} {oc26 kV26 dc26 pm26 cd26 ct26 : Value}
    {f27 : Addr} {od27 an27 : Option Addr} {sl27 : Array (Option Value)} {oc27 kV27 dc27 pm27 cd27 ct27 : Value}
    {f28 : Addr} {od28 an28 : Option Addr} {sl28 : Array (Option Value)} {oc28 kV28 dc28 pm28 cd28 ct28 : Value}
    {f29 : Addr} {od29 an29 : Option Addr} {sl29 : Array (Option Value)} {oc29 kV29 dc29 pm29 cd29 ct29 : Value}
    {f30 : Addr} {od30 an30 : Option Addr} {sl30 : Array (Option Value)} {oc30 kV30 dc30 pm30 cd30 ct30 : Value}
    {f31 : Addr} {od31 an31 : Option Addr} {sl31 : Array (Option Value)} {oc31 kV31 dc31 pm31 cd31 ct31 : Value}
    {f32 : Addr} {od32 an32 : Option Addr} {sl32 : Array (Option Value)} {oc32 kV32 dc32 pm32 cd32 ct32 : Value}
    {f33 : Addr} {od33 an33 : Option Addr} {sl33 : Array (Option Value)} {oc33 kV33 dc33 pm33 cd33 ct33 : Value}
    {f34 : Addr} {od34 an34 : Option Addr} {sl34 : Array (Option Value)} {oc34 kV34 dc34 pm34 cd34 ct34 : Value}
    {f35 : Addr} {od35 an35 : Option Addr} {sl35 : Array (Option Value)} {oc35 kV35 dc35 pm35 cd35 ct35 : Value}
    {f36 : Addr} {od36 an36 : Option Addr} {sl36 : Array (Option Value)} {oc36 kV36 dc36 pm36 cd36 ct36 : Value}
    {f37 : Addr} {od37 an37 : Option Addr} {sl37 : Array (Option Value)} {oc37 kV37 dc37 pm37 cd37 ct37 : Value}
    {f38 : Addr} {od38 an38 : Option Addr} {sl38 : Array (Option Value)} {oc38 kV38 dc38 pm38 cd38 ct38 : Value}
    {f39 : Addr} {od39 an39 : Option Addr} {sl39 : Array (Option Value)} {oc39 kV39 dc39 pm39 cd39 ct39 : Value}
    {f40 : Addr} {od40 an40 : Option Addr} {sl40 : Array (Option Value)} {oc40 kV40 dc40 pm40 cd40 ct40 : Value}
    {f41 : Addr} {od41 an41 : Option Addr} {sl41 : Array (Option Value)} {oc41 kV41 dc41 pm41 cd41 ct41 : Value}
    {f42 : Addr} {od42 an42 : Option Addr} {sl42 : Array (Option Value)} {oc42 kV42 dc42 pm42 cd42 ct42 : Value}
    {f43 : Addr} {od43 an43 : Option Addr} {sl43 : Array (Option Value)} {oc43 kV43 dc43 pm43 cd43 ct43 : Value}
    {f44 : Addr} {od44 an44 : Option Addr} {sl44 : Array (Option Value)} {oc44 kV44 dc44 pm44 cd44 ct44 : Value}
    {f45 : Addr} {od45 an45 : Option Addr} {sl45 : Array (Option Value)} {oc45 kV45 dc45 pm45 cd45 ct45 : Value}
    {f46 : Addr} {od46 an46 : Option Addr} {sl46 : Array (Option Value)} {oc46 kV46 dc46 pm46 cd46 ct46 : Value}
    {f47 : Addr} {od47 an47 : Option Addr} {sl47 : Array (Option Value)} {oc47 kV47 dc47 pm47 cd47 ct47 : Value}
    {f48 : Addr} {od48 an48 : Option Addr} {sl48 : Array (Option Value)} {oc48 kV48 dc48 pm48 cd48 ct48 : Value}
    {f49 : Addr} {od49 an49 : Option Addr} {sl49 : Array (Option Value)} {oc49 kV49 dc49 pm49 cd49 ct49 : Value}
    {f50 : Addr} {od50 an50 : Option Addr} {sl50 : Array (Option Value)} {oc50 kV50 dc50 pm50 ct50 : Value}
    {f51 : Addr} {od51 an51 : Option Addr} {sl51 : Array (Option Value)} {oc51 kV51 dc51 pm51 cd51 ct51 : Value}
    {f52 : Addr} {od52 an52 : Option Addr} {sl52 : Array (Option Value)} {oc52 kV52 dc52 pm52 cd52 ct52 : Value}
    {f53 : Addr} {od53 an53 : Option Addr} {sl53 : Array (Option Value)} {oc53 kV53 dc53 pm53 cd53 ct53 : Value}
    {CF fIF cdaF ccF : Addr} {nmF qF : Str} {NF : Addr} {bsF bmF subF : List Value} {snF : List Str} {abF : Bool} {colF : Option Bool} {ddF odF anF ccdF cldF : Option Addr} {m0F m1F m2F m3F m5F : Option Value} {ocF dcF pmF ctF cclF clF : Value} {oslF ccsF cslF : Array (Option Value)} {vsF : Array Value} {fileF : Str} {tfF : Tok}
    {CS fIS cdaS ccS : Addr} {nmS qS : Str} {NS : Addr} {bsS bmS subS : List Value} {snS : List Str} {abS : Bool} {colS : Option Bool} {ddS odS anS ccdS cldS : Option Addr} {m0S m1S m2S m3S m5S : Option Value} {ocS dcS pmS ctS cclS clS : Value} {oslS ccsS cslS : Array (Option Value)} {vsS : Array Value} {fileS : Str} {tfS : Tok}
    {az aw zz : Addr} {odz odw odzz : Option Addr} {slz slw slzz : Array (Option Value)} {nz nw nzz : Nat} {tz0 tz1 tz2 tz3 : Tok}
    (a0 : PySem.W.nsIn K mainGlobals "is_list" = some (some (.ref f0)))
    (l0 : K.lookup f0 = some ⟨oc0, od0, .func (PySem.W.fnOf "is_list" "is_list" (defArgs s_is_list) (defBody s_is_list) (defScope s_is_list) .none kV0 dc0 pm0 an0 (cd0) ct0), sl0⟩)
    (c0 : PySem.W.codeIn K (cd0) "is_list" = true)
    (k0 : PySem.W.keepIn K (.ref f0) = true)
    (a1 : PySem.W.nsIn K mainGlobals "is_whole" = some (some (.ref f1)))
    (l1 : K.lookup f1 = some ⟨oc1, od1, .func (PySem.W.fnOf "is_whole" "is_whole" (defArgs s_is_whole) (defBody s_is_whole) (defScope s_is_whole) .none kV1 dc1 pm1 an1 (cd1) ct1), sl1⟩)
    (c1 : PySem.W.codeIn K (cd1) "is_whole" = true)
    (k1 : PySem.W.keepIn K (.ref f1) = true)
    (a2 : PySem.W.nsIn K mainGlobals "lowest" = some (some (.ref f2)))
    (l2 : K.lookup f2 = some ⟨oc2, od2, .func (PySem.W.fnOf "lowest" "lowest" (defArgs s_lowest) (defBody s_lowest) (defScope s_lowest) .none kV2 dc2 pm2 an2 (cd2) ct2), sl2⟩)
    (c2 : PySem.W.codeIn K (cd2) "lowest" = true)
    (k2 : PySem.W.keepIn K (.ref f2) = true)
    (a3 : PySem.W.nsIn K mainGlobals "is_frac" = some (some (.ref f3)))
    (l3 : K.lookup f3 = some ⟨oc3, od3, .func (PySem.W.fnOf "is_frac" "is_frac" (defArgs s_is_frac) (defBody s_is_frac) (defScope s_is_frac) .none kV3 dc3 pm3 an3 (cd3) ct3), sl3⟩)
    (c3 : PySem.W.codeIn K (cd3) "is_frac" = true)
    (k3 : PySem.W.keepIn K (.ref f3) = true)
    (a4 : PySem.W.nsIn K mainGlobals "frac_of" = some (some (.ref f4)))
    (l4 : K.lookup f4 = some ⟨oc4, od4, .func (PySem.W.fnOf "frac_of" "frac_of" (defArgs s_frac_of) (defBody s_frac_of) (defScope s_frac_of) .none kV4 dc4 pm4 an4 (cd4) ct4), sl4⟩)
    (c4 : PySem.W.codeIn K (cd4) "frac_of" = true)
    (k4 : PySem.W.keepIn K (.ref f4) = true)
    (a5 : PySem.W.nsIn K mainGlobals "is_width" = some (some (.ref f5)))
    (l5 : K.lookup f5 = some ⟨oc5, od5, .func (PySem.W.fnOf "is_width" "is_width" (defArgs s_is_width) (defBody s_is_width) (defScope s_is_width) .none kV5 dc5 pm5 an5 (cd5) ct5), sl5⟩)
    (c5 : PySem.W.codeIn K (cd5) "is_width" = true)
    (k5 : PySem.W.keepIn K (.ref f5) = true)
    (a6 : PySem.W.nsIn K mainGlobals "plus" = some (some (.ref f6)))
    (l6 : K.lookup f6 = some ⟨oc6, od6, .func (PySem.W.fnOf "plus" "plus" (defArgs s_plus) (defBody s_plus) (defScope s_plus) .none kV6 dc6 pm6 an6 (cd6) ct6), sl6⟩)
    (c6 : PySem.W.codeIn K (cd6) "plus" = true)
    (k6 : PySem.W.keepIn K (.ref f6) = true)
    (a7 : PySem.W.nsIn K mainGlobals "minus" = some (some (.ref f7)))
    (l7 : K.lookup f7 = some ⟨oc7, od7, .func (PySem.W.fnOf "minus" "minus" (defArgs s_minus) (defBody s_minus) (defScope s_minus) .none kV7 dc7 pm7 an7 (cd7) ct7), sl7⟩)
    (c7 : PySem.W.codeIn K (cd7) "minus" = true)
    (k7 : PySem.W.keepIn K (.ref f7) = true)
    (a8 : PySem.W.nsIn K mainGlobals "times" = some (some (.ref f8)))
    (l8 : K.lookup f8 = some ⟨oc8, od8, .func (PySem.W.fnOf "times" "times" (defArgs s_times) (defBody s_times) (defScope s_times) .none kV8 dc8 pm8 an8 (cd8) ct8), sl8⟩)
    (c8 : PySem.W.codeIn K (cd8) "times" = true)
    (k8 : PySem.W.keepIn K (.ref f8) = true)
    (a9 : PySem.W.nsIn K mainGlobals "over" = some (some (.ref f9)))
    (l9 : K.lookup f9 = some ⟨oc9, od9, .func (PySem.W.fnOf "over" "over" (defArgs s_over) (defBody s_over) (defScope s_over) .none kV9 dc9 pm9 an9 (cd9) ct9), sl9⟩)
    (c9 : PySem.W.codeIn K (cd9) "over" = true)
    (k9 : PySem.W.keepIn K (.ref f9) = true)
    (a10 : PySem.W.nsIn K mainGlobals "is_less" = some (some (.ref f10)))
    (l10 : K.lookup f10 = some ⟨oc10, od10, .func (PySem.W.fnOf "is_less" "is_less" (defArgs s_is_less) (defBody s_is_less) (defScope s_is_less) .none kV10 dc10 pm10 an10 (cd10) ct10), sl10⟩)
    (c10 : PySem.W.codeIn K (cd10) "is_less" = true)
    (k10 : PySem.W.keepIn K (.ref f10) = true)
    (a11 : PySem.W.nsIn K mainGlobals "is_upto" = some (some (.ref f11)))
    (l11 : K.lookup f11 = some ⟨oc11, od11, .func (PySem.W.fnOf "is_upto" "is_upto" (defArgs s_is_upto) (defBody s_is_upto) (defScope s_is_upto) .none kV11 dc11 pm11 an11 (cd11) ct11), sl11⟩)
    (c11 : PySem.W.codeIn K (cd11) "is_upto" = true)
    (k11 : PySem.W.keepIn K (.ref f11) = true)
    (a12 : PySem.W.nsIn K mainGlobals "least_of" = some (some (.ref f12)))
    (l12 : K.lookup f12 = some ⟨oc12, od12, .func (PySem.W.fnOf "least_of" "least_of" (defArgs s_least_of) (defBody s_least_of) (defScope s_least_of) .none kV12 dc12 pm12 an12 (cd12) ct12), sl12⟩)
    (c12 : PySem.W.codeIn K (cd12) "least_of" = true)
    (k12 : PySem.W.keepIn K (.ref f12) = true)
    (a13 : PySem.W.nsIn K mainGlobals "minus_form" = some (some (.ref f13)))
    (l13 : K.lookup f13 = some ⟨oc13, od13, .func (PySem.W.fnOf "minus_form" "minus_form" (defArgs s_minus_form) (defBody s_minus_form) (defScope s_minus_form) .none kV13 dc13 pm13 an13 (cd13) ct13), sl13⟩)
    (c13 : PySem.W.codeIn K (cd13) "minus_form" = true)
    (k13 : PySem.W.keepIn K (.ref f13) = true)
    (a14 : PySem.W.nsIn K mainGlobals "worth_at" = some (some (.ref f14)))
    (l14 : K.lookup f14 = some ⟨oc14, od14, .func (PySem.W.fnOf "worth_at" "worth_at" (defArgs s_worth_at) (defBody s_worth_at) (defScope s_worth_at) .none kV14 dc14 pm14 an14 (cd14) ct14), sl14⟩)
    (c14 : PySem.W.codeIn K (cd14) "worth_at" = true)
    (k14 : PySem.W.keepIn K (.ref f14) = true)
    (a15 : PySem.W.nsIn K mainGlobals "is_form" = some (some (.ref f15)))
    (l15 : K.lookup f15 = some ⟨oc15, od15, .func (PySem.W.fnOf "is_form" "is_form" (defArgs s_is_form) (defBody s_is_form) (defScope s_is_form) .none kV15 dc15 pm15 an15 (cd15) ct15), sl15⟩)
    (c15 : PySem.W.codeIn K (cd15) "is_form" = true)
    (k15 : PySem.W.keepIn K (.ref f15) = true)
    (a16 : PySem.W.nsIn K mainGlobals "checked_form" = some (some (.ref f16)))
    (l16 : K.lookup f16 = some ⟨oc16, od16, .func (PySem.W.fnOf "checked_form" "checked_form" (defArgs s_checked_form) (defBody s_checked_form) (defScope s_checked_form) .none kV16 dc16 pm16 an16 (cd16) ct16), sl16⟩)
    (c16 : PySem.W.codeIn K (cd16) "checked_form" = true)
    (k16 : PySem.W.keepIn K (.ref f16) = true)
    (a17 : PySem.W.nsIn K mainGlobals "is_greater_behind" = some (some (.ref f17)))
    (l17 : K.lookup f17 = some ⟨oc17, od17, .func (PySem.W.fnOf "is_greater_behind" "is_greater_behind" (defArgs s_is_greater_behind) (defBody s_is_greater_behind) (defScope s_is_greater_behind) .none kV17 dc17 pm17 an17 (cd17) ct17), sl17⟩)
    (c17 : PySem.W.codeIn K (cd17) "is_greater_behind" = true)
    (k17 : PySem.W.keepIn K (.ref f17) = true)
    (a18 : PySem.W.nsIn K mainGlobals "next_end" = some (some (.ref f18)))
    (l18 : K.lookup f18 = some ⟨oc18, od18, .func (PySem.W.fnOf "next_end" "next_end" (defArgs s_next_end) (defBody s_next_end) (defScope s_next_end) .none kV18 dc18 pm18 an18 (cd18) ct18), sl18⟩)
    (c18 : PySem.W.codeIn K (cd18) "next_end" = true)
    (k18 : PySem.W.keepIn K (.ref f18) = true)
    (a19 : PySem.W.nsIn K mainGlobals "outline_of" = some (some (.ref f19)))
    (l19 : K.lookup f19 = some ⟨oc19, od19, .func (PySem.W.fnOf "outline_of" "outline_of" (defArgs s_outline_of) (defBody s_outline_of) (defScope s_outline_of) .none kV19 dc19 pm19 an19 (cd19) ct19), sl19⟩)
    (c19 : PySem.W.codeIn K (cd19) "outline_of" = true)
    (k19 : PySem.W.keepIn K (.ref f19) = true)
    (a20 : PySem.W.nsIn K mainGlobals "checked_forms" = some (some (.ref f20)))
    (l20 : K.lookup f20 = some ⟨oc20, od20, .func (PySem.W.fnOf "checked_forms" "checked_forms" (defArgs s_checked_forms) (defBody s_checked_forms) (defScope s_checked_forms) .none kV20 dc20 pm20 an20 (cd20) ct20), sl20⟩)
    (c20 : PySem.W.codeIn K (cd20) "checked_forms" = true)
    (k20 : PySem.W.keepIn K (.ref f20) = true)
    (a21 : PySem.W.nsIn K mainGlobals "greatest_form" = some (some (.ref f21)))
    (l21 : K.lookup f21 = some ⟨oc21, od21, .func (PySem.W.fnOf "greatest_form" "greatest_form" (defArgs s_greatest_form) (defBody s_greatest_form) (defScope s_greatest_form) .none kV21 dc21 pm21 an21 (cd21) ct21), sl21⟩)
    (c21 : PySem.W.codeIn K (cd21) "greatest_form" = true)
    (k21 : PySem.W.keepIn K (.ref f21) = true)
    (a22 : PySem.W.nsIn K mainGlobals "least_form" = some (some (.ref f22)))
    (l22 : K.lookup f22 = some ⟨oc22, od22, .func (PySem.W.fnOf "least_form" "least_form" (defArgs s_least_form) (defBody s_least_form) (defScope s_least_form) .none kV22 dc22 pm22 an22 (cd22) ct22), sl22⟩)
    (c22 : PySem.W.codeIn K (cd22) "least_form" = true)
    (k22 : PySem.W.keepIn K (.ref f22) = true)
    (a23 : PySem.W.nsIn K mainGlobals "is_stretch" = some (some (.ref f23)))
    (l23 : K.lookup f23 = some ⟨oc23, od23, .func (PySem.W.fnOf "is_stretch" "is_stretch" (defArgs s_is_stretch) (defBody s_is_stretch) (defScope s_is_stretch) .none kV23 dc23 pm23 an23 (cd23) ct23), sl23⟩)
    (c23 : PySem.W.codeIn K (cd23) "is_stretch" = true)
    (k23 : PySem.W.keepIn K (.ref f23) = true)
    (a24 : PySem.W.nsIn K mainGlobals "upto_zero" = some (some (.ref f24)))
    (l24 : K.lookup f24 = some ⟨oc24, od24, .func (PySem.W.fnOf "upto_zero" "upto_zero" (defArgs s_upto_zero) (defBody s_upto_zero) (defScope s_upto_zero) .none kV24 dc24 pm24 an24 (cd24) ct24), sl24⟩)
    (c24 : PySem.W.codeIn K (cd24) "upto_zero" = true)
    (k24 : PySem.W.keepIn K (.ref f24) = true)
    (a25 : PySem.W.nsIn K mainGlobals "where_upto" = some (some (.ref f25)))
    (l25 : K.lookup f25 = some ⟨oc25, od25, .func (PySem.W.fnOf "where_upto" "where_upto" (defArgs s_where_upto) (defBody s_where_upto) (defScope s_where_upto) .none kV25 dc25 pm25 an25 (cd25) ct25), sl25⟩)
    (c25 : PySem.W.codeIn K (cd25) "where_upto" = true)
    (k25 : PySem.W.keepIn K (.ref f25) = true)
    (a26 : PySem.W.nsIn K mainGlobals "where_below" = some (some (.ref f26)))
    (l26 : K.lookup f26 = some ⟨oc26, od26, .func (PySem.W.fnOf "where_below" "where_below" (defArgs s_where_below) (defBody s_where_below) (defScope s_where_below) .none kV26 dc26 pm26 an26 (cd26) ct26), sl26⟩)
    (c26 : PySem.W.codeIn K (cd26) "where_below" = true)
    (k26 : PySem.W.keepIn K (.ref f26) = true)
    (a27 : PySem.W.nsIn K mainGlobals "_law_source" = some (some (.ref f27)))
    (l27 : K.lookup f27 = some ⟨oc27, od27, .func (PySem.W.fnOf "_law_source" "_law_source" (defArgs s_L_source) (defBody s_L_source) (defScope s_L_source) .none kV27 dc27 pm27 an27 (cd27) ct27), sl27⟩)
    (c27 : PySem.W.codeIn K (cd27) "_law_source" = true)
    (k27 : PySem.W.keepIn K (.ref f27) = true)
    (a28 : PySem.W.nsIn K mainGlobals "_law_draw" = some (some (.ref f28)))
    (l28 : K.lookup f28 = some ⟨oc28, od28, .func (PySem.W.fnOf "_law_draw" "_law_draw" (defArgs s_L_draw) (defBody s_L_draw) (defScope s_L_draw) .none kV28 dc28 pm28 an28 (cd28) ct28), sl28⟩)
    (c28 : PySem.W.codeIn K (cd28) "_law_draw" = true)
    (k28 : PySem.W.keepIn K (.ref f28) = true)
    (a29 : PySem.W.nsIn K mainGlobals "_law_pick" = some (some (.ref f29)))
    (l29 : K.lookup f29 = some ⟨oc29, od29, .func (PySem.W.fnOf "_law_pick" "_law_pick" (defArgs s_L_pick) (defBody s_L_pick) (defScope s_L_pick) .none kV29 dc29 pm29 an29 (cd29) ct29), sl29⟩)
    (c29 : PySem.W.codeIn K (cd29) "_law_pick" = true)
    (k29 : PySem.W.keepIn K (.ref f29) = true)
    (a30 : PySem.W.nsIn K mainGlobals "_law_mixed" = some (some (.ref f30)))
    (l30 : K.lookup f30 = some ⟨oc30, od30, .func (PySem.W.fnOf "_law_mixed" "_law_mixed" (defArgs s_L_mixed) (defBody s_L_mixed) (defScope s_L_mixed) .none kV30 dc30 pm30 an30 (cd30) ct30), sl30⟩)
    (c30 : PySem.W.codeIn K (cd30) "_law_mixed" = true)
    (k30 : PySem.W.keepIn K (.ref f30) = true)
    (a31 : PySem.W.nsIn K mainGlobals "_law_same" = some (some (.ref f31)))
    (l31 : K.lookup f31 = some ⟨oc31, od31, .func (PySem.W.fnOf "_law_same" "_law_same" (defArgs s_L_same) (defBody s_L_same) (defScope s_L_same) .none kV31 dc31 pm31 an31 (cd31) ct31), sl31⟩)
    (c31 : PySem.W.codeIn K (cd31) "_law_same" = true)
    (k31 : PySem.W.keepIn K (.ref f31) = true)
    (a32 : PySem.W.nsIn K mainGlobals "_law_lowest" = some (some (.ref f32)))
    (l32 : K.lookup f32 = some ⟨oc32, od32, .func (PySem.W.fnOf "_law_lowest" "_law_lowest" (defArgs s_L_lowest) (defBody s_L_lowest) (defScope s_L_lowest) .none kV32 dc32 pm32 an32 (cd32) ct32), sl32⟩)
    (c32 : PySem.W.codeIn K (cd32) "_law_lowest" = true)
    (k32 : PySem.W.keepIn K (.ref f32) = true)
    (a33 : PySem.W.nsIn K mainGlobals "_law_plus" = some (some (.ref f33)))
    (l33 : K.lookup f33 = some ⟨oc33, od33, .func (PySem.W.fnOf "_law_plus" "_law_plus" (defArgs s_L_plus) (defBody s_L_plus) (defScope s_L_plus) .none kV33 dc33 pm33 an33 (cd33) ct33), sl33⟩)
    (c33 : PySem.W.codeIn K (cd33) "_law_plus" = true)
    (k33 : PySem.W.keepIn K (.ref f33) = true)
    (a34 : PySem.W.nsIn K mainGlobals "_law_times" = some (some (.ref f34)))
    (l34 : K.lookup f34 = some ⟨oc34, od34, .func (PySem.W.fnOf "_law_times" "_law_times" (defArgs s_L_times) (defBody s_L_times) (defScope s_L_times) .none kV34 dc34 pm34 an34 (cd34) ct34), sl34⟩)
    (c34 : PySem.W.codeIn K (cd34) "_law_times" = true)
    (k34 : PySem.W.keepIn K (.ref f34) = true)
    (a35 : PySem.W.nsIn K mainGlobals "_law_less" = some (some (.ref f35)))
    (l35 : K.lookup f35 = some ⟨oc35, od35, .func (PySem.W.fnOf "_law_less" "_law_less" (defArgs s_L_less) (defBody s_L_less) (defScope s_L_less) .none kV35 dc35 pm35 an35 (cd35) ct35), sl35⟩)
    (c35 : PySem.W.codeIn K (cd35) "_law_less" = true)
    (k35 : PySem.W.keepIn K (.ref f35) = true)
    (a36 : PySem.W.nsIn K mainGlobals "_law_loose" = some (some (.ref f36)))
    (l36 : K.lookup f36 = some ⟨oc36, od36, .func (PySem.W.fnOf "_law_loose" "_law_loose" (defArgs s_L_loose) (defBody s_L_loose) (defScope s_L_loose) .none kV36 dc36 pm36 an36 (cd36) ct36), sl36⟩)
    (c36 : PySem.W.codeIn K (cd36) "_law_loose" = true)
    (k36 : PySem.W.keepIn K (.ref f36) = true)
    (a37 : PySem.W.nsIn K mainGlobals "_law_wide" = some (some (.ref f37)))
    (l37 : K.lookup f37 = some ⟨oc37, od37, .func (PySem.W.fnOf "_law_wide" "_law_wide" (defArgs s_L_wide) (defBody s_L_wide) (defScope s_L_wide) .none kV37 dc37 pm37 an37 (cd37) ct37), sl37⟩)
    (c37 : PySem.W.codeIn K (cd37) "_law_wide" = true)
    (k37 : PySem.W.keepIn K (.ref f37) = true)
    (a38 : PySem.W.nsIn K mainGlobals "_law_some_fraction" = some (some (.ref f38)))
    (l38 : K.lookup f38 = some ⟨oc38, od38, .func (PySem.W.fnOf "_law_some_fraction" "_law_some_fraction" (defArgs s_L_some_fraction) (defBody s_L_some_fraction) (defScope s_L_some_fraction) .none kV38 dc38 pm38 an38 (cd38) ct38), sl38⟩)
    (c38 : PySem.W.codeIn K (cd38) "_law_some_fraction" = true)
    (k38 : PySem.W.keepIn K (.ref f38) = true)
    (a39 : PySem.W.nsIn K mainGlobals "_law_some_form" = some (some (.ref f39)))
    (l39 : K.lookup f39 = some ⟨oc39, od39, .func (PySem.W.fnOf "_law_some_form" "_law_some_form" (defArgs s_L_some_form) (defBody s_L_some_form) (defScope s_L_some_form) .none kV39 dc39 pm39 an39 (cd39) ct39), sl39⟩)
    (c39 : PySem.W.codeIn K (cd39) "_law_some_form" = true)
    (k39 : PySem.W.keepIn K (.ref f39) = true)
    (a40 : PySem.W.nsIn K mainGlobals "_law_odd_fractions" = some (some (.ref f40)))
    (l40 : K.lookup f40 = some ⟨oc40, od40, .func (PySem.W.fnOf "_law_odd_fractions" "_law_odd_fractions" (defArgs s_L_odd_fractions) (defBody s_L_odd_fractions) (defScope s_L_odd_fractions) .none kV40 dc40 pm40 an40 (cd40) ct40), sl40⟩)
    (c40 : PySem.W.codeIn K (cd40) "_law_odd_fractions" = true)
    (k40 : PySem.W.keepIn K (.ref f40) = true)
    (a41 : PySem.W.nsIn K mainGlobals "_law_odd_forms" = some (some (.ref f41)))
    (l41 : K.lookup f41 = some ⟨oc41, od41, .func (PySem.W.fnOf "_law_odd_forms" "_law_odd_forms" (defArgs s_L_odd_forms) (defBody s_L_odd_forms) (defScope s_L_odd_forms) .none kV41 dc41 pm41 an41 (cd41) ct41), sl41⟩)
    (c41 : PySem.W.codeIn K (cd41) "_law_odd_forms" = true)
    (k41 : PySem.W.keepIn K (.ref f41) = true)
    (a42 : PySem.W.nsIn K mainGlobals "_law_root" = some (some (.ref f42)))
    (l42 : K.lookup f42 = some ⟨oc42, od42, .func (PySem.W.fnOf "_law_root" "_law_root" (defArgs s_L_root) (defBody s_L_root) (defScope s_L_root) .none kV42 dc42 pm42 an42 (cd42) ct42), sl42⟩)
    (c42 : PySem.W.codeIn K (cd42) "_law_root" = true)
    (k42 : PySem.W.keepIn K (.ref f42) = true)
    (a43 : PySem.W.nsIn K mainGlobals "_law_upto" = some (some (.ref f43)))
    (l43 : K.lookup f43 = some ⟨oc43, od43, .func (PySem.W.fnOf "_law_upto" "_law_upto" (defArgs s_L_upto) (defBody s_L_upto) (defScope s_L_upto) .none kV43 dc43 pm43 an43 (cd43) ct43), sl43⟩)
    (c43 : PySem.W.codeIn K (cd43) "_law_upto" = true)
    (k43 : PySem.W.keepIn K (.ref f43) = true)
    (a44 : PySem.W.nsIn K mainGlobals "_law_below" = some (some (.ref f44)))
    (l44 : K.lookup f44 = some ⟨oc44, od44, .func (PySem.W.fnOf "_law_below" "_law_below" (defArgs s_L_below) (defBody s_L_below) (defScope s_L_below) .none kV44 dc44 pm44 an44 (cd44) ct44), sl44⟩)
    (c44 : PySem.W.codeIn K (cd44) "_law_below" = true)
    (k44 : PySem.W.keepIn K (.ref f44) = true)
    (a45 : PySem.W.nsIn K mainGlobals "_law_top_stretch" = some (some (.ref f45)))
    (l45 : K.lookup f45 = some ⟨oc45, od45, .func (PySem.W.fnOf "_law_top_stretch" "_law_top_stretch" (defArgs s_L_top_stretch) (defBody s_L_top_stretch) (defScope s_L_top_stretch) .none kV45 dc45 pm45 an45 (cd45) ct45), sl45⟩)
    (c45 : PySem.W.codeIn K (cd45) "_law_top_stretch" = true)
    (k45 : PySem.W.keepIn K (.ref f45) = true)
    (a46 : PySem.W.nsIn K mainGlobals "_law_envelope" = some (some (.ref f46)))
    (l46 : K.lookup f46 = some ⟨oc46, od46, .func (PySem.W.fnOf "_law_envelope" "_law_envelope" (defArgs s_L_envelope) (defBody s_L_envelope) (defScope s_L_envelope) .none kV46 dc46 pm46 an46 (cd46) ct46), sl46⟩)
    (c46 : PySem.W.codeIn K (cd46) "_law_envelope" = true)
    (k46 : PySem.W.keepIn K (.ref f46) = true)
    (a47 : PySem.W.nsIn K mainGlobals "_law_few_forms" = some (some (.ref f47)))
    (l47 : K.lookup f47 = some ⟨oc47, od47, .func (PySem.W.fnOf "_law_few_forms" "_law_few_forms" (defArgs s_L_few_forms) (defBody s_L_few_forms) (defScope s_L_few_forms) .none kV47 dc47 pm47 an47 (cd47) ct47), sl47⟩)
    (c47 : PySem.W.codeIn K (cd47) "_law_few_forms" = true)
    (k47 : PySem.W.keepIn K (.ref f47) = true)
    (a48 : PySem.W.nsIn K mainGlobals "_law_turned" = some (some (.ref f48)))
    (l48 : K.lookup f48 = some ⟨oc48, od48, .func (PySem.W.fnOf "_law_turned" "_law_turned" (defArgs s_L_turned) (defBody s_L_turned) (defScope s_L_turned) .none kV48 dc48 pm48 an48 (cd48) ct48), sl48⟩)
    (c48 : PySem.W.codeIn K (cd48) "_law_turned" = true)
    (k48 : PySem.W.keepIn K (.ref f48) = true)
    (a49 : PySem.W.nsIn K mainGlobals "_law_met_forms" = some (some (.ref f49)))
    (l49 : K.lookup f49 = some ⟨oc49, od49, .func (PySem.W.fnOf "_law_met_forms" "_law_met_forms" (defArgs s_L_met_forms) (defBody s_L_met_forms) (defScope s_L_met_forms) .none kV49 dc49 pm49 an49 (cd49) ct49), sl49⟩)
    (c49 : PySem.W.codeIn K (cd49) "_law_met_forms" = true)
    (k49 : PySem.W.keepIn K (.ref f49) = true)
    (a50 : PySem.W.nsIn K mainGlobals "_law_refused_right" = some (some (.ref f50)))
    (l50 : K.lookup f50 = some ⟨oc50, od50, .func (PySem.W.fnOf "_law_refused_right" "_law_refused_right" (defArgs s_L_refused_right) (defBody s_L_refused_right) (defScope s_L_refused_right) .none kV50 dc50 pm50 an50 (.ref cR) ct50), sl50⟩)
    (c50 : PySem.W.codeIn K (.ref cR) "_law_refused_right" = true)
    (k50 : PySem.W.keepIn K (.ref f50) = true)
    (a51 : PySem.W.nsIn K mainGlobals "_law_handed" = some (some (.ref f51)))
    (l51 : K.lookup f51 = some ⟨oc51, od51, .func (PySem.W.fnOf "_law_handed" "_law_handed" (defArgs s_L_handed) (defBody s_L_handed) (defScope s_L_handed) .none kV51 dc51 pm51 an51 (cd51) ct51), sl51⟩)
    (c51 : PySem.W.codeIn K (cd51) "_law_handed" = true)
    (k51 : PySem.W.keepIn K (.ref f51) = true)
    (a52 : PySem.W.nsIn K mainGlobals "_law_forty_right" = some (some (.ref f52)))
    (l52 : K.lookup f52 = some ⟨oc52, od52, .func (PySem.W.fnOf "_law_forty_right" "_law_forty_right" (defArgs s_L_forty_right) (defBody s_L_forty_right) (defScope s_L_forty_right) .none kV52 dc52 pm52 an52 (cd52) ct52), sl52⟩)
    (c52 : PySem.W.codeIn K (cd52) "_law_forty_right" = true)
    (k52 : PySem.W.keepIn K (.ref f52) = true)
    (a53 : PySem.W.nsIn K mainGlobals "law" = some (some (.ref f53)))
    (l53 : K.lookup f53 = some ⟨oc53, od53, .func (PySem.W.fnOf "law" "law" (defArgs s_L_law) (defBody s_L_law) (defScope s_L_law) .none kV53 dc53 pm53 an53 (cd53) ct53), sl53⟩)
    (c53 : PySem.W.codeIn K (cd53) "law" = true)
    (k53 : PySem.W.keepIn K (.ref f53) = true)
    (z_isinstance : PySem.W.nsIn K mainGlobals "isinstance" = some none)
    (z_list : PySem.W.nsIn K mainGlobals "list" = some none)
    (z_tuple : PySem.W.nsIn K mainGlobals "tuple" = some none)
    (z_int : PySem.W.nsIn K mainGlobals "int" = some none)
    (z_bool : PySem.W.nsIn K mainGlobals "bool" = some none)
    (z_abs : PySem.W.nsIn K mainGlobals "abs" = some none)
    (z_len : PySem.W.nsIn K mainGlobals "len" = some none)
    (z_enumerate : PySem.W.nsIn K mainGlobals "enumerate" = some none)
    (z_sum : PySem.W.nsIn K mainGlobals "sum" = some none)
    (z_range : PySem.W.nsIn K mainGlobals "range" = some none)
    (z_all : PySem.W.nsIn K mainGlobals "all" = some none)
    (z_zip : PySem.W.nsIn K mainGlobals "zip" = some none)
    (z_min : PySem.W.nsIn K mainGlobals "min" = some none)
    (z_super : PySem.W.nsIn K mainGlobals "super" = some none)
    (aCF : PySem.W.nsIn K mainGlobals "BadForm" = some (some (.ref CF)))
    (xLF : K.lookup CF = some (excClassObj nmF qF CF NF bsF bmF true snF subF abF colF ddF m0F m1F m2F m3F m5F "ValueError.__new__"))
    (rvF : PySem.HandSPX.refsVE bmF = true)
    (saF : PySem.W.findIn K (.ref CF) "__setattr__" = some (some (.builtin "object.__setattr__")))
    (gaF : PySem.W.findIn K (.ref CF) "__getattribute__" = some (some (.builtin "BaseException.__getattribute__")))
    (ggF : PySem.W.findIn K (.ref CF) "__getattr__" = some none)
    (noNF : PySem.W.findIn K (.ref CF) "thing" = some none)
    (iCF : PySem.W.findIn K (.ref CF) "__init__" = some (some (.ref fIF)))
    (tCF : PySem.W.typeIn K (.ref fIF) = some (.type "function"))
    (kCF : PySem.W.keepIn K (.ref CF) = true)
    (exCF : PySem.W.subIn K (.ref CF) (.type "BaseException") = some true)
    (exVF : PySem.W.subIn K (.ref CF) (.type "ValueError") = some true)
    (tyCF : PySem.W.typeIn K (.ref CF) = some (.type "type"))
    (hdCF : PySem.W.hasDictIn K CF = true)
    (isCF : PySem.W.isClsIn K CF = true)
    (sbF : PySem.W.subIn K (.ref CF) (.ref CF) = some true)
    (supF : PySem.W.ks_superIn K CF CF "__init__" = some (some (.builtin "ValueError.__init__")))
    (sCF : PySem.W.mroIn K CF (.ref CF) = some true)
    (lIF : K.lookup fIF = some ⟨ocF, odF, .func (PySem.W.ksFn "__init__" "BadForm.__init__" PySem.EBF.iA PySem.EBF.iB PySem.EBF.iS .none .none dcF pmF anF (.ref cdaF) ctF ccF), oslF⟩)
    (cIF : PySem.W.codeIn K (.ref cdaF) "BadForm.__init__" = true)
    (lCF : K.lookup cdaF = some ⟨cclF, ccdF, .fields vsF, ccsF⟩)
    (vfF : vsF[2]? = some (.str fileF tfF))
    (pfF : ((l.prog.main.file : Str) == fileF) = true)
    (lXF : K.lookup ccF = some ⟨clF, cldF, .cell (some (.ref CF)), cslF⟩)
    (aCS : PySem.W.nsIn K mainGlobals "BadForms" = some (some (.ref CS)))
    (xLS : K.lookup CS = some (excClassObj nmS qS CS NS bsS bmS true snS subS abS colS ddS m0S m1S m2S m3S m5S "ValueError.__new__"))
    (rvS : PySem.HandSPX.refsVE bmS = true)
    (saS : PySem.W.findIn K (.ref CS) "__setattr__" = some (some (.builtin "object.__setattr__")))
    (gaS : PySem.W.findIn K (.ref CS) "__getattribute__" = some (some (.builtin "BaseException.__getattribute__")))
    (ggS : PySem.W.findIn K (.ref CS) "__getattr__" = some none)
    (noNS : PySem.W.findIn K (.ref CS) "index" = some none)
    (iCS : PySem.W.findIn K (.ref CS) "__init__" = some (some (.ref fIS)))
    (tCS : PySem.W.typeIn K (.ref fIS) = some (.type "function"))
    (kCS : PySem.W.keepIn K (.ref CS) = true)
    (exCS : PySem.W.subIn K (.ref CS) (.type "BaseException") = some true)
    (exVS : PySem.W.subIn K (.ref CS) (.type "ValueError") = some true)
    (tyCS : PySem.W.typeIn K (.ref CS) = some (.type "type"))
    (hdCS : PySem.W.hasDictIn K CS = true)
    (isCS : PySem.W.isClsIn K CS = true)
    (sbS : PySem.W.subIn K (.ref CS) (.ref CS) = some true)
    (supS : PySem.W.ks_superIn K CS CS "__init__" = some (some (.builtin "ValueError.__init__")))
    (sCS : PySem.W.mroIn K CS (.ref CS) = some true)
    (lIS : K.lookup fIS = some ⟨ocS, odS, .func (PySem.W.ksFn "__init__" "BadForms.__init__" PySem.EBS.iA PySem.EBS.iB PySem.EBS.iS .none .none dcS pmS anS (.ref cdaS) ctS ccS), oslS⟩)
    (cIS : PySem.W.codeIn K (.ref cdaS) "BadForms.__init__" = true)
    (lCS : K.lookup cdaS = some ⟨cclS, ccdS, .fields vsS, ccsS⟩)
    (vfS : vsS[2]? = some (.str fileS tfS))
    (pfS : ((l.prog.main.file : Str) == fileS) = true)
    (lXS : K.lookup ccS = some ⟨clS, cldS, .cell (some (.ref CS)), cslS⟩)
    (sSF : PySem.W.subIn K (.ref CS) (.ref CF) = some false)
    (opq : PySem.W.nsIn K PySem.cStatics "thirdparty.any" = some none)
    (top : (l.prog.main.scope.names.lookup ("super" : Str)).isSome = false)
    (aZ : PySem.W.nsIn K mainGlobals "ZERO" = some (some (.ref az)))
    (lZ : K.lookup az = some ⟨.type "tuple", odz, .seq #[.int 0 tz0, .int 1 tz1] nz, slz⟩)
    (aW : PySem.W.nsIn K mainGlobals "ALL_WIDTHS" = some (some (.ref aw)))
    (lW : K.lookup aw = some ⟨.type "tuple", odw, .seq #[.ref zz, .bool true, .none, .bool false] nw, slw⟩)
    (lZZ : K.lookup zz = some ⟨.type "tuple", odzz, .seq #[.int 0 tz2, .int 1 tz3] nzz, slzz⟩)
    (hT : h.get? PT = some { cls := .none, data := .fields #[] }) (nT : K.lookup PT = none) (hC : PySem.W.CodeHd h cR PT) :
    LamX.LawAtS l w K CX0 12 n "_law_script" mg fa h := by
  have e := hfa.symm.trans (PySem.W.mg_of X G a53)
  cases e
  have sZ : ∀ {a : Addr} {od : Option Addr} {n : Nat} {sl : Array (Option Value)} {t0 t1 : Tok}, K.lookup a = some ⟨.type "tuple", od, .seq #[.int 0 t0, .int 1 t1] n, sl⟩ → SqT K (fun _ => none) a [.int 0, .int 1] := fun hl => .inr ⟨_, _, _, hl, rfl, rfl, (by show 2 ≤ sizeLine; decide), .cons ⟨_, rfl⟩ (.cons ⟨_, rfl⟩ .nil)⟩
  let T : Txt K mg :=
    { is_list := dn_mk X G a0 l0 c0 k0 fun _ _ _ _ _ _ us hl => match us, hl with | [_], _ => rfl
      is_whole := dn_mk X G a1 l1 c1 k1 fun _ _ _ _ _ _ us hl => match us, hl with | [_], _ => rfl
      lowest := dn_mk X G a2 l2 c2 k2 fun _ _ _ _ _ _ us hl => match us, hl with | [_, _], _ => rfl
      is_frac := dn_mk X G a3 l3 c3 k3 fun _ _ _ _ _ _ us hl => match us, hl with | [_], _ => rfl
      frac_of := dn_mk X G a4 l4 c4 k4 fun _ _ _ _ _ _ us hl => match us, hl with | [_], _ => rfl
      is_width := dn_mk X G a5 l5 c5 k5 fun _ _ _ _ _ _ us hl => match us, hl with | [_], _ => rfl
      plus := dn_mk X G a6 l6 c6 k6 fun _ _ _ _ _ _ us hl => match us, hl with | [_, _], _ => rfl
      minus := dn_mk X G a7 l7 c7 k7 fun _ _ _ _ _ _ us hl => match us, hl with | [_, _], _ => rfl
      times := dn_mk X G a8 l8 c8 k8 fun _ _ _ _ _ _ us hl => match us, hl with | [_, _], _ => rfl
      over := dn_mk X G a9 l9 c9 k9 fun _ _ _ _ _ _ us hl => match us, hl with | [_, _], _ => rfl
      is_less := dn_mk X G a10 l10 c10 k10 fun _ _ _ _ _ _ us hl => match us, hl with | [_, _], _ => rfl
      is_upto := dn_mk X G a11 l11 c11 k11 fun _ _ _ _ _ _ us hl => match us, hl with | [_, _], _ => rfl
      least_of := dn_mk X G a12 l12 c12 k12 fun _ _ _ _ _ _ us hl => match us, hl with | [_], _ => rfl
      minus_form := dn_mk X G a13 l13 c13 k13 fun _ _ _ _ _ _ us hl => match us, hl with | [_, _], _ => rfl
      worth_at := dn_mk X G a14 l14 c14 k14 fun _ _ _ _ _ _ us hl => match us, hl with | [_, _], _ => rfl
      is_form := dn_mk X G a15 l15 c15 k15 fun _ _ _ _ _ _ us hl => match us, hl with | [_], _ => rfl
      checked_form := dn_mk X G a16 l16 c16 k16 fun _ _ _ _ _ _ us hl => match us, hl with | [_], _ => rfl
      is_greater_behind := dn_mk X G a17 l17 c17 k17 fun _ _ _ _ _ _ us hl => match us, hl with | [_, _, _], _ => rfl
      next_end := dn_mk X G a18 l18 c18 k18 fun _ _ _ _ _ _ us hl => match us, hl with | [_, _], _ => rfl
      outline_of := dn_mk X G a19 l19 c19 k19 fun _ _ _ _ _ _ us hl => match us, hl with | [_], _ => rfl
      checked_forms := dn_mk X G a20 l20 c20 k20 fun _ _ _ _ _ _ us hl => match us, hl with | [_], _ => rfl
      greatest_form := dn_mk X G a21 l21 c21 k21 fun _ _ _ _ _ _ us hl => match us, hl with | [_], _ => rfl
      least_form := dn_mk X G a22 l22 c22 k22 fun _ _ _ _ _ _ us hl => match us, hl with | [_], _ => rfl
      is_stretch := dn_mk X G a23 l23 c23 k23 fun _ _ _ _ _ _ us hl => match us, hl with | [_], _ => rfl
      upto_zero := dn_mk X G a24 l24 c24 k24 fun _ _ _ _ _ _ us hl => match us, hl with | [_, _], _ => rfl
      where_upto := dn_mk X G a25 l25 c25 k25 fun _ _ _ _ _ _ us hl => match us, hl with | [_, _], _ => rfl
      where_below := dn_mk X G a26 l26 c26 k26 fun _ _ _ _ _ _ us hl => match us, hl with | [_, _], _ => rfl
      L_source := dn_mk X G a27 l27 c27 k27 fun _ _ _ _ _ _ us hl => match us, hl with | [_, _], _ => rfl
      L_draw := dn_mk X G a28 l28 c28 k28 fun _ _ _ _ _ _ us hl => match us, hl with | [_, _], _ => rfl
      L_pick := dn_mk X G a29 l29 c29 k29 fun _ _ _ _ _ _ us hl => match us, hl with | [_, _], _ => rfl
      L_mixed := dn_mk X G a30 l30 c30 k30 fun _ _ _ _ _ _ us hl => match us, hl with | [_, _], _ => rfl
      L_same := dn_mk X G a31 l31 c31 k31 fun _ _ _ _ _ _ us hl => match us, hl with | [_, _], _ => rfl
      L_lowest := dn_mk X G a32 l32 c32 k32 fun _ _ _ _ _ _ us hl => match us, hl with | [_, _], _ => rfl
      L_plus := dn_mk X G a33 l33 c33 k33 fun _ _ _ _ _ _ us hl => match us, hl with | [_, _], _ => rfl
      L_times := dn_mk X G a34 l34 c34 k34 fun _ _ _ _ _ _ us hl => match us, hl with | [_, _], _ => rfl
      L_less := dn_mk X G a35 l35 c35 k35 fun _ _ _ _ _ _ us hl => match us, hl with | [_, _], _ => rfl
      L_loose := dn_mk X G a36 l36 c36 k36 fun _ _ _ _ _ _ us hl => match us, hl with | [_, _], _ => rfl
      L_wide := dn_mk X G a37 l37 c37 k37 fun _ _ _ _ _ _ us hl => match us, hl with | [_, _], _ => rfl
      L_some_fraction := dn_mk X G a38 l38 c38 k38 fun _ _ _ _ _ _ us hl => match us, hl with | [_], _ => rfl
      L_some_form := dn_mk X G a39 l39 c39 k39 fun _ _ _ _ _ _ us hl => match us, hl with | [_], _ => rfl
      L_odd_fractions := dn_mk X G a40 l40 c40 k40 fun _ _ _ _ _ _ us hl => match us, hl with | [], _ => rfl
      L_odd_forms := dn_mk X G a41 l41 c41 k41 fun _ _ _ _ _ _ us hl => match us, hl with | [_, _], _ => rfl
      L_root := dn_mk X G a42 l42 c42 k42 fun _ _ _ _ _ _ us hl => match us, hl with | [_, _], _ => rfl
      L_upto := dn_mk X G a43 l43 c43 k43 fun _ _ _ _ _ _ us hl => match us, hl with | [_, _], _ => rfl
      L_below := dn_mk X G a44 l44 c44 k44 fun _ _ _ _ _ _ us hl => match us, hl with | [_, _], _ => rfl
      L_top_stretch := dn_mk X G a45 l45 c45 k45 fun _ _ _ _ _ _ us hl => match us, hl with | [_, _], _ => rfl
      L_envelope := dn_mk X G a46 l46 c46 k46 fun _ _ _ _ _ _ us hl => match us, hl with | [_], _ => rfl
      L_few_forms := dn_mk X G a47 l47 c47 k47 fun _ _ _ _ _ _ us hl => match us, hl with | [_], _ => rfl
      L_turned := dn_mk X G a48 l48 c48 k48 fun _ _ _ _ _ _ us hl => match us, hl with | [_], _ => rfl
      L_met_forms := dn_mk X G a49 l49 c49 k49 fun _ _ _ _ _ _ us hl => match us, hl with | [_], _ => rfl
      L_refused_right := dn_mk X G a50 l50 c50 k50 fun _ _ _ _ _ _ us hl => match us, hl with | [_, _], _ => rfl
      L_handed := dn_mk X G a51 l51 c51 k51 fun _ _ _ _ _ _ us hl => match us, hl with | [_, _], _ => rfl
      L_forty_right := dn_mk X G a52 l52 c52 k52 fun _ _ _ _ _ _ us hl => match us, hl with | [_], _ => rfl
      L_law := dn_mk X G a53 l53 c53 k53 fun _ _ _ _ _ _ us hl => match us, hl with | [_], _ => rfl
      m_isinstance := PySem.W.mg_none_of X G z_isinstance
      m_list := PySem.W.mg_none_of X G z_list
      m_tuple := PySem.W.mg_none_of X G z_tuple
      m_int := PySem.W.mg_none_of X G z_int
      m_bool := PySem.W.mg_none_of X G z_bool
      m_abs := PySem.W.mg_none_of X G z_abs
      m_len := PySem.W.mg_none_of X G z_len
      m_enumerate := PySem.W.mg_none_of X G z_enumerate
      m_sum := PySem.W.mg_none_of X G z_sum
      m_range := PySem.W.mg_none_of X G z_range
      m_all := PySem.W.mg_none_of X G z_all
      m_zip := PySem.W.mg_none_of X G z_zip
      m_min := PySem.W.mg_none_of X G z_min
      ZERO := ⟨az, PySem.W.mg_of X G aZ⟩
      ALL_WIDTHS := ⟨aw, PySem.W.mg_of X G aW⟩
      zero_at := sZ lZ
      all_at := ⟨zz, .inr ⟨_, _, _, lW, rfl, rfl, (by show 4 ≤ sizeLine; decide), .cons rfl (.cons rfl (.cons rfl (.cons rfl .nil)))⟩, sZ lZZ⟩ }
  have BF : PySem.EBF.ErrTxt l.prog K mg CF fIF :=
    { gC := PySem.W.mg_of X G aCF, cls := ⟨nmF, qF, NF, bsF, _, snF, subF, abF, colF, ddF, m0F, m1F, m2F, m3F, m5F, xLF, rvF⟩, sa := saF, ga := gaF, gg := ggF, noN := noNF, iC := iCF, tC := tCF, kC := kCF, exC := exCF, exV := exVF, tyC := tyCF, hdC := hdCF, te := exm_mk exCF isCF tyCF sbF, sup := supF, opq := opq, selfC := sCF, gS := PySem.W.mg_none_of X G z_super, top := top,
      fn := ⟨_, _, _, _, _, _, _, _, _, _, _, _, _, _, _, _, _, _, lIF, cIF, lCF, vfF, pfF, lXF⟩ }
  have BS : PySem.EBS.ErrTxt l.prog K mg CS fIS :=
    { gC := PySem.W.mg_of X G aCS, cls := ⟨nmS, qS, NS, bsS, _, snS, subS, abS, colS, ddS, m0S, m1S, m2S, m3S, m5S, xLS, rvS⟩, sa := saS, ga := gaS, gg := ggS, noN := noNS, iC := iCS, tC := tCS, kC := kCS, exC := exCS, exV := exVS, tyC := tyCS, hdC := hdCS, te := exm_mk exCS isCS tyCS sbS, sup := supS, opq := opq, selfC := sCS, gS := PySem.W.mg_none_of X G z_super, top := top,
      fn := ⟨_, _, _, _, _, _, _, _, _, _, _, _, _, _, _, _, _, _, lIS, cIS, lCS, vfS, pfS, lXS⟩ }
  let U : TxE l.prog K mg := ⟨CF, fIF, CS, fIS, BF, BS, exm_mk exCF isCF tyCF sSF⟩
  have C : CodeAt K "_law_refused_right" "_law_refused_right" s_L_refused_right T.L_refused_right.f T.L_refused_right.fd cR := ⟨_, _, _, _, _, _, _, _, rfl, l50, c50⟩
  refine ⟨T.L_law.fd, [(cR, PT)], spLaw K PT, fun p hp => ?_, fun p hp => ?_, fun p hp => ?_, fun s v => .of_eq rfl, fun H a ns _ _ hH hS => ?_, fun base _ _ TB => ok_L_law T U C (TB (cR, PT) (List.mem_singleton.mpr rfl))⟩
  · obtain rfl := List.mem_singleton.mp hp
    exact hT
  · obtain rfl := List.mem_singleton.mp hp
    exact nT
  · obtain rfl := List.mem_singleton.mp hp
    exact hC
  · refine ⟨a, ns, rfl, hS, fun p hp => ?_, fun H' => rfl⟩
    obtain rfl := List.mem_singleton.mp hp
    exact LamX.TabS.nil (hH (cR, PT) (List.mem_singleton.mpr rfl))
end KX
set_option Elab.async false
set_option maxRecDepth 100000
open PySem PySem.W PyProof.Rows in
set_option maxRecDepth 100000 in
set_option maxHeartbeats 0 in
theorem PySem.Challenge.cw_pagefall_k64_whole_forms_compared_holds : PySem.Challenge.rw_pagefall_k64_whole_forms_compared.Holds := by
  w_on; o_law; k_head; (case hw => w_witness2)
  k_fill
  refine LamX.walk_ofTs (l := PySem.Challenge.rw_pagefall_k64_whole_forms_compared) (k := 12) (CX := fun _ => L2.CX0) (x := "_law_script") rfl (by decide) rfl ⟨rfl, by decide, by decide⟩ (fun w h Y => PySem.W.km_in_of Y) ?F (fun _ _ _ _ _ z => z)
  case F =>
    intro w mg fa h Y hK G hmg
    refine' KX.all_mk hK G hmg ?a0 ?l0 ?c0 ?k0 ?a1 ?l1 ?c1 ?k1 ?a2 ?l2 ?c2 ?k2 ?a3 ?l3 ?c3 ?k3 ?a4 ?l4 ?c4 ?k4 ?a5 ?l5 ?c5 ?k5 ?a6 ?l6 ?c6 ?k6 ?a7 ?l7 ?c7 ?k7 ?a8 ?l8 ?c8 ?k8 ?a9 ?l9 ?c9 ?k9 ?a10 ?l10 ?c10 ?k10 ?a11 ?l11 ?c11 ?k11 ?a12 ?l12 ?c12 ?k12 ?a13 ?l13 ?c13 ?k13 ?a14 ?l14 ?c14 ?k14 ?a15 ?l15 ?c15 ?k15 ?a16 ?l16 ?c16 ?k16 ?a17 ?l17 ?c17 ?k17 ?a18 ?l18 ?c18 ?k18 ?a19 ?l19 ?c19 ?k19 ?a20 ?l20 ?c20 ?k20 ?a21 ?l21 ?c21 ?k21 ?a22 ?l22 ?c22 ?k22 ?a23 ?l23 ?c23 ?k23 ?a24 ?l24 ?c24 ?k24 ?a25 ?l25 ?c25 ?k25 ?a26 ?l26 ?c26 ?k26 ?a27 ?l27 ?c27 ?k27 ?a28 ?l28 ?c28 ?k28 ?a29 ?l29 ?c29 ?k29 ?a30 ?l30 ?c30 ?k30 ?a31 ?l31 ?c31 ?k31 ?a32 ?l32 ?c32 ?k32 ?a33 ?l33 ?c33 ?k33 ?a34 ?l34 ?c34 ?k34 ?a35 ?l35 ?c35 ?k35 ?a36 ?l36 ?c36 ?k36 ?a37 ?l37 ?c37 ?k37 ?a38 ?l38 ?c38 ?k38 ?a39 ?l39 ?c39 ?k39 ?a40 ?l40 ?c40 ?k40 ?a41 ?l41 ?c41 ?k41 ?a42 ?l42 ?c42 ?k42 ?a43 ?l43 ?c43 ?k43 ?a44 ?l44 ?c44 ?k44 ?a45 ?l45 ?c45 ?k45 ?a46 ?l46 ?c46 ?k46 ?a47 ?l47 ?c47 ?k47 ?a48 ?l48 ?c48 ?k48 ?a49 ?l49 ?c49 ?k49 ?a50 ?l50 ?c50 ?k50 ?a51 ?l51 ?c51 ?k51 ?a52 ?l52 ?c52 ?k52 ?a53 ?l53 ?c53 ?k53 ?z_isinstance ?z_list ?z_tuple ?z_int ?z_bool ?z_abs ?z_len ?z_enumerate ?z_sum ?z_range ?z_all ?z_zip ?z_min ?z_super ?aCF ?xLF ?rvF ?saF ?gaF ?ggF ?noNF ?iCF ?tCF ?kCF ?exCF ?exVF ?tyCF ?hdCF ?isCF ?sbF ?supF ?sCF ?lIF ?cIF ?lCF ?vfF ?pfF ?lXF ?aCS ?xLS ?rvS ?saS ?gaS ?ggS ?noNS ?iCS ?tCS ?kCS ?exCS ?exVS ?tyCS ?hdCS ?isCS ?sbS ?supS ?sCS ?lIS ?cIS ?lCS ?vfS ?pfS ?lXS ?sSF ?opq ?top ?aZ ?lZ ?aW ?lW ?lZZ (PySem.W.km_tabs_of Y 413 (by decide)) ?nT ?hC
    (case a0 => k_is)
    (case l0 => k_is)
    (case c0 => k_is)
    (case k0 => k_is)
    (case a1 => k_is)
    (case l1 => k_is)
    (case c1 => k_is)
    (case k1 => k_is)
    (case a2 => k_is)
    (case l2 => k_is)
    (case c2 => k_is)
    (case k2 => k_is)
    (case a3 => k_is)
    (case l3 => k_is)
    (case c3 => k_is)
    (case k3 => k_is)
    (case a4 => k_is)
    (case l4 => k_is)
    (case c4 => k_is)
    (case k4 => k_is)
    (case a5 => k_is)
    (case l5 => k_is)
    (case c5 => k_is)
    (case k5 => k_is)
    (case a6 => k_is)
    (case l6 => k_is)
    (case c6 => k_is)
    (case k6 => k_is)
    (case a7 => k_is)
    (case l7 => k_is)
    (case c7 => k_is)
    (case k7 => k_is)
    (case a8 => k_is)
    (case l8 => k_is)
    (case c8 => k_is)
    (case k8 => k_is)
    (case a9 => k_is)
    (case l9 => k_is)
    (case c9 => k_is)
    (case k9 => k_is)
    (case a10 => k_is)
    (case l10 => k_is)
    (case c10 => k_is)
    (case k10 => k_is)
    (case a11 => k_is)
    (case l11 => k_is)
    (case c11 => k_is)
    (case k11 => k_is)
    (case a12 => k_is)
    (case l12 => k_is)
    (case c12 => k_is)
    (case k12 => k_is)
    (case a13 => k_is)
    (case l13 => k_is)
    (case c13 => k_is)
    (case k13 => k_is)
    (case a14 => k_is)
    (case l14 => k_is)
    (case c14 => k_is)
    (case k14 => k_is)
    (case a15 => k_is)
    (case l15 => k_is)
    (case c15 => k_is)
    (case k15 => k_is)
    (case a16 => k_is)
    (case l16 => k_is)
    (case c16 => k_is)
    (case k16 => k_is)
    (case a17 => k_is)
    (case l17 => k_is)
    (case c17 => k_is)
    (case k17 => k_is)
    (case a18 => k_is)
    (case l18 => k_is)
    (case c18 => k_is)
    (case k18 => k_is)
    (case a19 => k_is)
    (case l19 => k_is)
    (case c19 => k_is)
    (case k19 => k_is)
    (case a20 => k_is)
    (case l20 => k_is)
    (case c20 => k_is)
    (case k20 => k_is)
    (case a21 => k_is)
    (case l21 => k_is)
    (case c21 => k_is)
    (case k21 => k_is)
    (case a22 => k_is)
    (case l22 => k_is)
    (case c22 => k_is)
    (case k22 => k_is)
    (case a23 => k_is)
    (case l23 => k_is)
    (case c23 => k_is)
    (case k23 => k_is)
    (case a24 => k_is)
    (case l24 => k_is)
    (case c24 => k_is)
    (case k24 => k_is)
    (case a25 => k_is)
    (case l25 => k_is)
    (case c25 => k_is)
    (case k25 => k_is)
    (case a26 => k_is)
    (case l26 => k_is)
    (case c26 => k_is)
    (case k26 => k_is)
    (case a27 => k_is)
    (case l27 => k_is)
    (case c27 => k_is)
    (case k27 => k_is)
    (case a28 => k_is)
    (case l28 => k_is)
    (case c28 => k_is)
    (case k28 => k_is)
    (case a29 => k_is)
    (case l29 => k_is)
    (case c29 => k_is)
    (case k29 => k_is)
    (case a30 => k_is)
    (case l30 => k_is)
    (case c30 => k_is)
    (case k30 => k_is)
    (case a31 => k_is)
    (case l31 => k_is)
    (case c31 => k_is)
    (case k31 => k_is)
    (case a32 => k_is)
    (case l32 => k_is)
    (case c32 => k_is)
    (case k32 => k_is)
    (case a33 => k_is)
    (case l33 => k_is)
    (case c33 => k_is)
    (case k33 => k_is)
    (case a34 => k_is)
    (case l34 => k_is)
    (case c34 => k_is)
    (case k34 => k_is)
    (case a35 => k_is)
    (case l35 => k_is)
    (case c35 => k_is)
    (case k35 => k_is)
    (case a36 => k_is)
    (case l36 => k_is)
    (case c36 => k_is)
    (case k36 => k_is)
    (case a37 => k_is)
    (case l37 => k_is)
    (case c37 => k_is)
    (case k37 => k_is)
    (case a38 => k_is)
    (case l38 => k_is)
    (case c38 => k_is)
    (case k38 => k_is)
    (case a39 => k_is)
    (case l39 => k_is)
    (case c39 => k_is)
    (case k39 => k_is)
    (case a40 => k_is)
    (case l40 => k_is)
    (case c40 => k_is)
    (case k40 => k_is)
    (case a41 => k_is)
    (case l41 => k_is)
    (case c41 => k_is)
    (case k41 => k_is)
    (case a42 => k_is)
    (case l42 => k_is)
    (case c42 => k_is)
    (case k42 => k_is)
    (case a43 => k_is)
    (case l43 => k_is)
    (case c43 => k_is)
    (case k43 => k_is)
    (case a44 => k_is)
    (case l44 => k_is)
    (case c44 => k_is)
    (case k44 => k_is)
    (case a45 => k_is)
    (case l45 => k_is)
    (case c45 => k_is)
    (case k45 => k_is)
    (case a46 => k_is)
    (case l46 => k_is)
    (case c46 => k_is)
    (case k46 => k_is)
    (case a47 => k_is)
    (case l47 => k_is)
    (case c47 => k_is)
    (case k47 => k_is)
    (case a48 => k_is)
    (case l48 => k_is)
    (case c48 => k_is)
    (case k48 => k_is)
    (case a49 => k_is)
    (case l49 => k_is)
    (case c49 => k_is)
    (case k49 => k_is)
    (case a50 => k_is)
    (case l50 => k_is)
    (case c50 => k_is)
    (case k50 => k_is)
    (case a51 => k_is)
    (case l51 => k_is)
    (case c51 => k_is)
    (case k51 => k_is)
    (case a52 => k_is)
    (case l52 => k_is)
    (case c52 => k_is)
    (case k52 => k_is)
    (case a53 => k_is)
    (case l53 => k_is)
    (case c53 => k_is)
    (case k53 => k_is)
    (case z_isinstance => k_is)
    (case z_list => k_is)
    (case z_tuple => k_is)
    (case z_int => k_is)
    (case z_bool => k_is)
    (case z_abs => k_is)
    (case z_len => k_is)
    (case z_enumerate => k_is)
    (case z_sum => k_is)
    (case z_range => k_is)
    (case z_all => k_is)
    (case z_zip => k_is)
    (case z_min => k_is)
    (case z_super => k_is)
    (case aCF => k_is)
    (case xLF => k_is)
    (case rvF => rfl)
    (case saF => k_is)
    (case gaF => k_is)
    (case ggF => k_is)
    (case noNF => k_is)
    (case iCF => k_is)
    (case tCF => k_is)
    (case kCF => k_is)
    (case exCF => k_is)
    (case exVF => k_is)
    (case tyCF => k_is)
    (case hdCF => k_is)
    (case isCF => k_is)
    (case sbF => first | rfl | k_is)
    (case supF => ks_is)
    (case sCF => k_is)
    (case lIF => k_is)
    (case cIF => k_is)
    (case lCF => k_is)
    (case vfF => rfl)
    (case pfF => first | rfl | decide +kernel)
    (case lXF => k_is)
    (case aCS => k_is)
    (case xLS => k_is)
    (case rvS => rfl)
    (case saS => k_is)
    (case gaS => k_is)
    (case ggS => k_is)
    (case noNS => k_is)
    (case iCS => k_is)
    (case tCS => k_is)
    (case kCS => k_is)
    (case exCS => k_is)
    (case exVS => k_is)
    (case tyCS => k_is)
    (case hdCS => k_is)
    (case isCS => k_is)
    (case sbS => first | rfl | k_is)
    (case supS => ks_is)
    (case sCS => k_is)
    (case lIS => k_is)
    (case cIS => k_is)
    (case lCS => k_is)
    (case vfS => rfl)
    (case pfS => first | rfl | decide +kernel)
    (case lXS => k_is)
    (case sSF => k_is)
    (case opq => k_is)
    (case top => first | rfl | decide +kernel)
    (case aZ => k_is)
    (case lZ => k_is)
    (case aW => k_is)
    (case lW => k_is)
    (case lZZ => k_is)
    (case nT => kernel_rfl)
    (case hC => exact PySem.W.codeHd_of_K hK (by kernel_rfl))
