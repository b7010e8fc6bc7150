import PyProof.Rows.All
import Wide.All
import OpenK.AllK
import Wide.FinOn
import HandS.ForMost
import HandS.Walk
import KE.GoesEnum
import KE.GoesMore
import HandS.DictComp
import HandS.TupMul
import KE.KDictDisplayH
import KE.KeyNested
import HandS.IsInst
import HandS.Deep
import HandS.Conv
import HandS.TupLen
import HandS.Sort
import PySem.Challenge.RW_aheadcells_k24_whole_surely_by_all_small
set_option Elab.async false
set_option linter.all false
set_option maxRecDepth 100000
set_option maxHeartbeats 4000000
/-! Distances: walks of links, Floyd and Warshall's table, Bellman and Ford's table; each is the table of least sums. No program in sight. -/
namespace K24
abbrev Lk := Nat × Nat × Nat
/-- a walk of so many links from a step to another one over so many rounds -/
inductive Wk (L : List Lk) : Nat → Nat → Nat → Nat → Prop
  | nil (a : Nat) : Wk L 0 a a 0
  | snoc {k a b c d r : Nat} : Wk L k a b d → (b, c, r) ∈ L → Wk L (k + 1) a c (d + r)
def InR (n : Nat) (L : List Lk) : Prop := ∀ a b r, (a, b, r) ∈ L → a < n ∧ b < n
/-- a table of least sums -/
structure IsDist (n : Nat) (L : List Lk) (F : Nat → Nat → Option Nat) : Prop where
  sound : ∀ a b d, a < n → b < n → F a b = some d → ∃ k, Wk L k a b d
  least : ∀ a b d k, a < n → Wk L k a b d → ∃ e, F a b = some e ∧ e ≤ d
theorem Wk.lt {n : Nat} {L : List Lk} (hR : InR n L) {k a b d : Nat} (w : Wk L k a b d) (ha : a < n) : b < n := by
  cases w with
  | nil => exact ha
  | snoc _ h => exact (hR _ _ _ h).2
theorem IsDist.uniq {n : Nat} {L : List Lk} {F G : Nat → Nat → Option Nat} (f : IsDist n L F) (g : IsDist n L G) {a b : Nat} (ha : a < n) (hb : b < n) : F a b = G a b := by
  cases e : F a b with
  | some d =>
    obtain ⟨k, w⟩ := f.sound a b d ha hb e
    obtain ⟨x, hx, lx⟩ := g.least a b d k ha w
    obtain ⟨k', w'⟩ := g.sound a b x ha hb hx
    obtain ⟨y, hy, ly⟩ := f.least a b x k' ha w'
    rw [e] at hy
    have : d = y := Option.some.inj hy
    have : d = x := by omega
    rw [hx, this]
  | none =>
    cases e' : G a b with
    | none => rfl
    | some x =>
      obtain ⟨k', w'⟩ := g.sound a b x ha hb e'
      obtain ⟨y, hy, ly⟩ := f.least a b x k' ha w'
      rw [e] at hy
      cases hy
theorem Wk.cat {L : List Lk} {k a b d : Nat} (w : Wk L k a b d) : ∀ {m c e : Nat}, Wk L m b c e → ∃ j, Wk L j a c (d + e) := by
  intro m c e v
  induction v with
  | nil => exact ⟨k, w⟩
  | snoc _ h ih =>
    obtain ⟨j, u⟩ := ih w
    refine ⟨j + 1, ?_⟩
    rw [← Nat.add_assoc]
    exact u.snoc h

/-! ### the table by middle steps -/
/-- a walk whose steps between are below m -/
inductive WI (L : List Lk) (m : Nat) : Nat → Nat → Nat → Prop
  | nil (a : Nat) : WI L m a a 0
  | one {a b r : Nat} : (a, b, r) ∈ L → WI L m a b r
  | join {a b c d e : Nat} : b < m → WI L m a b d → WI L m b c e → WI L m a c (d + e)
theorem WI.cut {L : List Lk} {m a c d : Nat} (w : WI L (m + 1) a c d) :
    (∃ e, e ≤ d ∧ WI L m a c e) ∨ ∃ d1 d2, WI L m a m d1 ∧ WI L m m c d2 ∧ d1 + d2 ≤ d := by
  induction w with
  | nil a => exact .inl ⟨0, Nat.le_refl _, .nil a⟩
  | one h => exact .inl ⟨_, Nat.le_refl _, .one h⟩
  | @join a b c d e hb _ _ i1 i2 =>
    by_cases hm : b = m
    · subst hm
      have x1 : ∃ d1, WI L b a b d1 ∧ d1 ≤ d := by
        rcases i1 with ⟨x, hx, w⟩ | ⟨x, y, w, _, h⟩
        · exact ⟨x, w, hx⟩
        · exact ⟨x, w, by omega⟩
      have x2 : ∃ d2, WI L b b c d2 ∧ d2 ≤ e := by
        rcases i2 with ⟨x, hx, w⟩ | ⟨x, y, _, w, h⟩
        · exact ⟨x, w, hx⟩
        · exact ⟨y, w, by omega⟩
      obtain ⟨d1, w1, h1⟩ := x1
      obtain ⟨d2, w2, h2⟩ := x2
      exact .inr ⟨d1, d2, w1, w2, by omega⟩
    · have hb' : b < m := by omega
      rcases i1 with ⟨x, hx, w⟩ | ⟨x, y, w, w', h⟩
      · rcases i2 with ⟨x2, hx2, v⟩ | ⟨x2, y2, v, v', h2⟩
        · exact .inl ⟨x + x2, by omega, .join hb' w v⟩
        · exact .inr ⟨x + x2, y2, .join hb' w v, v', by omega⟩
      · rcases i2 with ⟨x2, hx2, v⟩ | ⟨x2, y2, v, v', h2⟩
        · exact .inr ⟨x, y + x2, w, .join hb' w' v, by omega⟩
        · exact .inr ⟨x, y2, w, v', by omega⟩
theorem WI.of {n : Nat} {L : List Lk} (hR : InR n L) {k a b d : Nat} (w : Wk L k a b d) : WI L n a b d := by
  induction w with
  | nil a => exact .nil a
  | snoc _ h ih => exact .join (hR _ _ _ h).1 ih (.one h)
theorem WI.zero {L : List Lk} {a b d : Nat} (w : WI L 0 a b d) : (a = b ∧ d = 0) ∨ (a, b, d) ∈ L := by
  cases w with
  | nil => exact .inl ⟨rfl, rfl⟩
  | one h => exact .inr h
  | join h _ _ => exact absurd h (Nat.not_lt_zero _)
abbrev Tb := Nat → Nat → Option Nat
/-- what stands behind a lowering by one entry -/
def lowO (x y : Option Nat) (s : Nat) : Option Nat :=
  match y with
  | none => x
  | some r => match x with
    | none => some (s + r)
    | some q => if s + r < q then some (s + r) else some q
/-- the table while the links are read: i of them were -/
structure FL (n : Nat) (L : List Lk) (i : Nat) (F : Tb) : Prop where
  sound : ∀ a b d, a < n → b < n → F a b = some d → ∃ k, Wk L k a b d
  diag : ∀ a, a < n → F a a = some 0
  links : ∀ a b r, (a, b, r) ∈ L.take i → ∃ e, F a b = some e ∧ e ≤ r
def tb0 : Tb := fun a b => if a = b then some 0 else none
def setT (F : Tb) (a b : Nat) (v : Option Nat) : Tb := fun x y => if x = a ∧ y = b then v else F x y
theorem setT_same {F : Tb} {a b : Nat} {v : Option Nat} : setT F a b v a b = v := if_pos ⟨rfl, rfl⟩
theorem setT_ne {F : Tb} {a b x y : Nat} {v : Option Nat} (h : ¬ (x = a ∧ y = b)) : setT F a b v x y = F x y := if_neg h
theorem FL.start (n : Nat) (L : List Lk) : FL n L 0 tb0 where
  sound := fun a b d _ _ h => by
    unfold tb0 at h
    by_cases e : a = b
    · rw [if_pos e] at h
      cases h
      subst e
      exact ⟨0, .nil a⟩
    · rw [if_neg e] at h
      cases h
  diag := fun a _ => if_pos rfl
  links := fun a b r h => by simp at h
theorem mem_take_succ {α : Type} {L : List α} {i : Nat} {x y : α} (hi : L[i]? = some x) : y ∈ L.take (i + 1) ↔ y ∈ L.take i ∨ y = x := by
  rw [List.take_add_one, hi]
  simp
theorem FL.keep {n : Nat} {L : List Lk} {i : Nat} {F : Tb} (f : FL n L i F) {a b r e : Nat} (hi : L[i]? = some (a, b, r)) (h : F a b = some e) (hle : e ≤ r) : FL n L (i + 1) F :=
  ⟨f.sound, f.diag, fun x y z hz => by
    rcases (mem_take_succ hi).mp hz with h1 | h1
    · exact f.links x y z h1
    · cases h1
      exact ⟨e, h, hle⟩⟩
theorem FL.low {n : Nat} {L : List Lk} (hR : InR n L) {i : Nat} {F : Tb} (f : FL n L i F) {a b r : Nat} (hi : L[i]? = some (a, b, r)) (h : F a b = none ∨ ∃ e, F a b = some e ∧ r < e) : FL n L (i + 1) (setT F a b (some r)) := by
  have hm : (a, b, r) ∈ L := List.mem_of_getElem? hi
  obtain ⟨ha, hb⟩ := hR _ _ _ hm
  refine ⟨fun x y d hx hy hd => ?_, fun x hx => ?_, fun x y z hz => ?_⟩
  · by_cases e : x = a ∧ y = b
    · obtain ⟨rfl, rfl⟩ := e
      rw [setT_same] at hd
      cases hd
      have w := (Wk.nil (L := L) x).snoc hm
      rw [show 0 + r = r from Nat.zero_add r] at w
      exact ⟨_, w⟩
    · rw [setT_ne e] at hd
      exact f.sound x y d hx hy hd
  · by_cases e : x = a ∧ x = b
    · obtain ⟨rfl, rfl⟩ := e
      have := f.diag x hx
      rcases h with h | ⟨e, h, hl⟩
      · rw [h] at this; cases this
      · rw [h] at this; cases this; exact absurd hl (Nat.not_lt_zero _)
    · rw [setT_ne e]
      exact f.diag x hx
  · have old : ∀ x y z, (∃ e, F x y = some e ∧ e ≤ z) → ∃ e, setT F a b (some r) x y = some e ∧ e ≤ z := by
      rintro x y z ⟨e, he, hl⟩
      by_cases q : x = a ∧ y = b
      · obtain ⟨rfl, rfl⟩ := q
        rw [setT_same]
        refine ⟨r, rfl, ?_⟩
        rcases h with h | ⟨e', h, hl'⟩
        · rw [h] at he; cases he
        · rw [h] at he; cases he; omega
      · rw [setT_ne q]
        exact ⟨e, he, hl⟩
    rcases (mem_take_succ hi).mp hz with h1 | h1
    · exact old x y z (f.links x y z h1)
    · cases h1
      exact ⟨r, setT_same, Nat.le_refl _⟩
/-- the table while step m is the middle: i rows are done -/
structure FW (n : Nat) (L : List Lk) (m i : Nat) (F : Tb) : Prop where
  sound : ∀ a b d, a < n → b < n → F a b = some d → ∃ k, Wk L k a b d
  diag : ∀ a, a < n → F a a = some 0
  comp : ∀ a b d, a < n → b < n → WI L m a b d → ∃ e, F a b = some e ∧ e ≤ d
  more : ∀ a b d, a < i → a < n → b < n → WI L (m + 1) a b d → ∃ e, F a b = some e ∧ e ≤ d
theorem FL.fw {n : Nat} {L : List Lk} {F : Tb} (f : FL n L L.length F) : FW n L 0 0 F where
  sound := f.sound
  diag := f.diag
  comp := fun a b d ha _ w => by
    rcases w.zero with ⟨rfl, rfl⟩ | h
    · exact ⟨0, f.diag a ha, Nat.le_refl _⟩
    · exact f.links a b d (by rw [List.take_length]; exact h)
  more := fun _ _ _ h => absurd h (Nat.not_lt_zero _)
theorem FW.next {n : Nat} {L : List Lk} {m : Nat} {F : Tb} (f : FW n L m n F) : FW n L (m + 1) 0 F :=
  ⟨f.sound, f.diag, fun a b d ha hb w => f.more a b d ha ha hb w, fun _ _ _ h => absurd h (Nat.not_lt_zero _)⟩
theorem FW.done {n : Nat} {L : List Lk} (hR : InR n L) {F : Tb} (f : FW n L n 0 F) : IsDist n L F :=
  ⟨f.sound, fun a b d _ ha w => f.comp a b d ha (w.lt hR ha) (WI.of hR w)⟩
theorem FW.skip {n : Nat} {L : List Lk} {m i : Nat} {F : Tb} (f : FW n L m i F) (hm : m < n) (h : F i m = none) : FW n L m (i + 1) F :=
  ⟨f.sound, f.diag, f.comp, fun a b d hi ha hb w => by
    by_cases e : a = i
    · subst e
      rcases w.cut with ⟨x, hx, w1⟩ | ⟨x, y, w1, w2, _⟩
      · obtain ⟨z, hz, lz⟩ := f.comp a b x ha hb w1
        exact ⟨z, hz, by omega⟩
      · obtain ⟨z, hz, lz⟩ := f.comp a m x ha hm w1
        rw [h] at hz
        cases hz
    · exact f.more a b d (by omega) ha hb w⟩
def rowT (F : Tb) (i m s : Nat) : Tb := fun a b => if a = i then lowO (F i b) (F m b) s else F a b
theorem lowO_le1 {x y : Option Nat} {s e : Nat} (h : x = some e) : ∃ z, lowO x y s = some z ∧ z ≤ e := by
  subst h
  cases y with
  | none => exact ⟨e, rfl, Nat.le_refl _⟩
  | some r =>
    show ∃ z, (if s + r < e then some (s + r) else some e) = some z ∧ z ≤ e
    by_cases q : s + r < e
    · rw [if_pos q]; exact ⟨_, rfl, by omega⟩
    · rw [if_neg q]; exact ⟨_, rfl, by omega⟩
theorem lowO_le2 {x y : Option Nat} {s r : Nat} (h : y = some r) : ∃ z, lowO x y s = some z ∧ z ≤ s + r := by
  subst h
  cases x with
  | none => exact ⟨_, rfl, Nat.le_refl _⟩
  | some e =>
    show ∃ z, (if s + r < e then some (s + r) else some e) = some z ∧ z ≤ s + r
    by_cases q : s + r < e
    · rw [if_pos q]; exact ⟨_, rfl, by omega⟩
    · rw [if_neg q]; exact ⟨_, rfl, by omega⟩
theorem lowO_of {x y : Option Nat} {s z : Nat} (h : lowO x y s = some z) : x = some z ∨ ∃ r, y = some r ∧ z = s + r := by
  cases y with
  | none => exact .inl h
  | some r =>
    cases x with
    | none =>
      have h' : some (s + r) = some z := h
      cases h'
      exact .inr ⟨r, rfl, rfl⟩
    | some e =>
      have h' : (if s + r < e then some (s + r) else some e) = some z := h
      by_cases q : s + r < e
      · rw [if_pos q] at h'; cases h'; exact .inr ⟨r, rfl, rfl⟩
      · rw [if_neg q] at h'; cases h'; exact .inl rfl
theorem FW.row {n : Nat} {L : List Lk} {m i s : Nat} {F : Tb} (f : FW n L m i F) (hm : m < n) (hi : i < n) (h : F i m = some s) : FW n L m (i + 1) (rowT F i m s) := by
  have ne : ∀ a b, a ≠ i → rowT F i m s a b = F a b := fun a b q => if_neg q
  have eq : ∀ b, rowT F i m s i b = lowO (F i b) (F m b) s := fun b => if_pos rfl
  have dn : ∀ a b d, (∃ e, F a b = some e ∧ e ≤ d) → ∃ e, rowT F i m s a b = some e ∧ e ≤ d := by
    rintro a b d ⟨e, he, hl⟩
    by_cases q : a = i
    · subst q
      rw [eq]
      obtain ⟨z, hz, lz⟩ := lowO_le1 (y := F m b) (s := s) he
      exact ⟨z, hz, by omega⟩
    · rw [ne a b q]
      exact ⟨e, he, hl⟩
  refine ⟨fun a b d ha hb hd => ?_, fun a ha => ?_, fun a b d ha hb w => dn a b d (f.comp a b d ha hb w), fun a b d hi' ha hb w => ?_⟩
  · by_cases q : a = i
    · subst q
      rw [eq] at hd
      rcases lowO_of hd with e | ⟨r, e, rfl⟩
      · exact f.sound a b d ha hb e
      · obtain ⟨k1, w1⟩ := f.sound a m s ha hm h
        obtain ⟨k2, w2⟩ := f.sound m b r hm hb e
        exact w1.cat w2
    · rw [ne a b q] at hd
      exact f.sound a b d ha hb hd
  · obtain ⟨e, he, hl⟩ := dn a a 0 ⟨0, f.diag a ha, Nat.le_refl _⟩
    rw [he]
    congr 1
    omega
  · by_cases q : a = i
    · subst q
      rcases w.cut with ⟨x, hx, w1⟩ | ⟨x, y, w1, w2, hxy⟩
      · obtain ⟨z, hz, lz⟩ := dn a b x (f.comp a b x ha hb w1)
        exact ⟨z, hz, by omega⟩
      · obtain ⟨z1, hz1, lz1⟩ := f.comp a m x ha hm w1
        obtain ⟨z2, hz2, lz2⟩ := f.comp m b y hm hb w2
        rw [h] at hz1
        cases hz1
        rw [eq]
        obtain ⟨z, hz, lz⟩ := lowO_le2 (x := F a b) (s := s) hz2
        exact ⟨z, hz, by omega⟩
    · exact dn a b d (f.more a b d (by omega) ha hb w)
theorem lowO_zero (x : Option Nat) : lowO x x 0 = x := by
  cases x with
  | none => rfl
  | some q =>
    show (if 0 + q < q then some (0 + q) else some q) = some q
    rw [if_neg (by omega)]

/-! ### the table by turns over all links -/
structure BF (n : Nat) (L : List Lk) (t : Nat) (T : Tb) : Prop where
  sound : ∀ a b d, T a b = some d → a < n ∧ b < n ∧ ∃ k, Wk L k a b d
  comp : ∀ a b d k, a < n → k ≤ t → Wk L k a b d → ∃ e, T a b = some e ∧ e ≤ d
/-- within a turn: i links are done, of the next one the begins below j; P is the table at the turn's start -/
structure BI (n : Nat) (L : List Lk) (i j : Nat) (P T : Tb) : Prop where
  sound : ∀ a b d, T a b = some d → a < n ∧ b < n ∧ ∃ k, Wk L k a b d
  mono : ∀ a b e, P a b = some e → ∃ e', T a b = some e' ∧ e' ≤ e
  done : ∀ b c r, (b, c, r) ∈ L.take i → ∀ a e, a < n → P a b = some e → ∃ e', T a c = some e' ∧ e' ≤ e + r
  part : ∀ b c r, L[i]? = some (b, c, r) → ∀ a e, a < j → a < n → P a b = some e → ∃ e', T a c = some e' ∧ e' ≤ e + r
def bf0 (n : Nat) : Tb := fun a b => if a = b ∧ a < n then some 0 else none
theorem BF.start (n : Nat) (L : List Lk) : BF n L 0 (bf0 n) := by
  refine ⟨fun a b d h => ?_, fun a b d k ha hk w => ?_⟩
  · unfold bf0 at h
    by_cases e : a = b ∧ a < n
    · rw [if_pos e] at h
      cases h
      obtain ⟨rfl, hn⟩ := e
      exact ⟨hn, hn, 0, .nil a⟩
    · rw [if_neg e] at h
      cases h
  · cases w with
    | nil => exact ⟨0, if_pos ⟨rfl, ha⟩, Nat.le_refl _⟩
    | snoc _ _ => omega
theorem BF.begin {n : Nat} {L : List Lk} {t : Nat} {T : Tb} (f : BF n L t T) : BI n L 0 0 T T :=
  ⟨f.sound, fun _ _ e h => ⟨e, h, Nat.le_refl _⟩, fun b c r h => by simp at h, fun _ _ _ _ _ _ h => absurd h (Nat.not_lt_zero _)⟩
theorem BI.next {n : Nat} {L : List Lk} {i : Nat} {P T : Tb} (f : BI n L i n P T) {l : Lk} (hi : L[i]? = some l) : BI n L (i + 1) 0 P T :=
  ⟨f.sound, f.mono, fun b c r h a e ha hp => by
    rcases (mem_take_succ hi).mp h with h1 | h1
    · exact f.done b c r h1 a e ha hp
    · subst h1
      exact f.part b c r hi a e ha ha hp, fun _ _ _ _ _ _ h => absurd h (Nat.not_lt_zero _)⟩
theorem BI.turn {n : Nat} {L : List Lk} {t : Nat} {P T : Tb} (p : BF n L t P) (f : BI n L L.length 0 P T) : BF n L (t + 1) T := by
  refine ⟨f.sound, fun a b d k ha hk w => ?_⟩
  cases w with
  | nil =>
    obtain ⟨e, he, hl⟩ := p.comp a a 0 0 ha (Nat.zero_le _) (.nil a)
    obtain ⟨e', he', hl'⟩ := f.mono a a e he
    exact ⟨e', he', by omega⟩
  | @snoc k' a b' c d' r w' h =>
    obtain ⟨e, he, hl⟩ := p.comp a b' d' k' ha (by omega) w'
    obtain ⟨e', he', hl'⟩ := f.done b' b r (by rw [List.take_length]; exact h) a e ha he
    exact ⟨e', he', by omega⟩
theorem BI.skip {n : Nat} {L : List Lk} {i j : Nat} {P T : Tb} (f : BI n L i j P T) {b c r : Nat} (hi : L[i]? = some (b, c, r)) (h : T j b = none) : BI n L i (j + 1) P T :=
  ⟨f.sound, f.mono, f.done, fun b' c' r' hi' a e hj ha hp => by
    by_cases q : a = j
    · subst q
      rw [hi] at hi'
      cases hi'
      obtain ⟨x, hx, _⟩ := f.mono a b e hp
      rw [h] at hx
      cases hx
    · exact f.part b' c' r' hi' a e (by omega) ha hp⟩
/-- the new entry: min(least, the old one or least) -/
def minO (x : Nat) (y : Option Nat) : Nat := if y.getD x < x then y.getD x else x
theorem BI.low {n : Nat} {L : List Lk} (hR : InR n L) {i j : Nat} {P T : Tb} (f : BI n L i j P T) {b c r s : Nat} (hi : L[i]? = some (b, c, r)) (hj : j < n) (h : T j b = some s) :
    BI n L i (j + 1) P (setT T j c (some (minO (s + r) (T j c)))) := by
  have hm : (b, c, r) ∈ L := List.mem_of_getElem? hi
  have hle : ∀ x y e, T x y = some e → ∃ e', setT T j c (some (minO (s + r) (T j c))) x y = some e' ∧ e' ≤ e := by
    intro x y e he
    by_cases q : x = j ∧ y = c
    · obtain ⟨rfl, rfl⟩ := q
      rw [setT_same, he]
      refine ⟨_, rfl, ?_⟩
      show (if e < s + r then e else s + r) ≤ e
      split <;> omega
    · rw [setT_ne q]
      exact ⟨e, he, Nat.le_refl _⟩
  have hnew : ∃ e', setT T j c (some (minO (s + r) (T j c))) j c = some e' ∧ e' ≤ s + r := by
    rw [setT_same]
    refine ⟨_, rfl, ?_⟩
    unfold minO
    split <;> omega
  have up : ∀ x y z, (∃ e, T x y = some e ∧ e ≤ z) → ∃ e, setT T j c (some (minO (s + r) (T j c))) x y = some e ∧ e ≤ z := by
    rintro x y z ⟨e, he, hl⟩
    obtain ⟨e', he', hl'⟩ := hle x y e he
    exact ⟨e', he', by omega⟩
  refine ⟨fun x y d hd => ?_, fun x y e he => up x y e (f.mono x y e he), fun b' c' r' h' a e ha hp => up _ _ _ (f.done b' c' r' h' a e ha hp), fun b' c' r' hi' a e ha hn hp => ?_⟩
  · by_cases q : x = j ∧ y = c
    · obtain ⟨rfl, rfl⟩ := q
      rw [setT_same] at hd
      have hd' : minO (s + r) (T x y) = d := Option.some.inj hd
      refine ⟨hj, (hR _ _ _ hm).2, ?_⟩
      obtain ⟨_, _, k, w⟩ := f.sound x b s h
      unfold minO at hd'
      cases hT : T x y with
      | none =>
        rw [hT] at hd'
        have : d = s + r := by
          rw [← hd']
          show (if s + r < s + r then s + r else s + r) = s + r
          split <;> rfl
        rw [this]
        exact ⟨_, w.snoc hm⟩
      | some e =>
        rw [hT] at hd'
        have hd2 : (if e < s + r then e else s + r) = d := hd'
        by_cases g : e < s + r
        · rw [if_pos g] at hd2
          rw [← hd2]
          exact (f.sound x y e hT).2.2
        · rw [if_neg g] at hd2
          rw [← hd2]
          exact ⟨_, w.snoc hm⟩
    · rw [setT_ne q] at hd
      exact f.sound x y d hd
  · by_cases q : a = j
    · subst q
      rw [hi] at hi'
      cases hi'
      obtain ⟨x, hx, lx⟩ := f.mono a b e hp
      rw [h] at hx
      cases hx
      obtain ⟨e', he', hl'⟩ := hnew
      exact ⟨e', he', by omega⟩
    · exact up _ _ _ (f.part b' c' r' hi' a e (by omega) hn hp)

/-! ### a walk can be had without a step twice -/
inductive Wv (L : List Lk) : List Nat → Nat → Nat → Nat → Prop
  | nil (a : Nat) : Wv L [a] a a 0
  | snoc {vs : List Nat} {a b c d r : Nat} : Wv L vs a b d → (b, c, r) ∈ L → Wv L (c :: vs) a c (d + r)
theorem Wv.cut {L : List Lk} {vs : List Nat} {a b d : Nat} (w : Wv L vs a b d) : ∀ c ∈ vs, ∃ us e, Wv L us a c e ∧ e ≤ d ∧ us.Sublist vs := by
  induction w with
  | nil a =>
    intro c hc
    have e : c = a := by simpa using hc
    subst e
    exact ⟨_, 0, .nil c, Nat.le_refl _, List.Sublist.refl _⟩
  | @snoc vs a b c d r w h ih =>
    intro x hx
    by_cases q : x = c
    · subst q
      exact ⟨_, _, w.snoc h, Nat.le_refl _, List.Sublist.refl _⟩
    · have hx' : x ∈ vs := by
        rcases List.mem_cons.mp hx with e | e
        · exact absurd e q
        · exact e
      obtain ⟨us, e, w1, hl, hs⟩ := ih x hx'
      exact ⟨us, e, w1, by omega, hs.cons c⟩
theorem Wk.simple {L : List Lk} {k a b d : Nat} (w : Wk L k a b d) : ∃ vs e, Wv L vs a b e ∧ e ≤ d ∧ vs.Nodup := by
  induction w with
  | nil a => exact ⟨[a], 0, .nil a, Nat.le_refl _, by simp⟩
  | @snoc k a b c d r w h ih =>
    obtain ⟨vs, e, w1, hl, hn⟩ := ih
    by_cases q : c ∈ vs
    · obtain ⟨us, e', w2, hl2, hs⟩ := w1.cut c q
      exact ⟨us, e', w2, by omega, hs.nodup hn⟩
    · exact ⟨c :: vs, e + r, w1.snoc h, by omega, List.nodup_cons.mpr ⟨q, hn⟩⟩
theorem Wv.wk {L : List Lk} {vs : List Nat} {a b d : Nat} (w : Wv L vs a b d) : ∃ k, k + 1 = vs.length ∧ Wk L k a b d := by
  induction w with
  | nil a => exact ⟨0, rfl, .nil a⟩
  | snoc _ h ih =>
    obtain ⟨k, e, v⟩ := ih
    exact ⟨k + 1, by simp [← e], v.snoc h⟩
theorem Wv.within {n : Nat} {L : List Lk} (hR : InR n L) {vs : List Nat} {a b d : Nat} (w : Wv L vs a b d) (ha : a < n) : ∀ c ∈ vs, c < n := by
  induction w with
  | nil a =>
    intro c hc
    have e : c = a := by simpa using hc
    omega
  | snoc _ h ih =>
    intro x hx
    rcases List.mem_cons.mp hx with e | e
    · subst e; exact (hR _ _ _ h).2
    · exact ih ha x e
theorem Wk.short {n : Nat} {L : List Lk} (hR : InR n L) {k a b d : Nat} (w : Wk L k a b d) (ha : a < n) : ∃ j e, j < n ∧ e ≤ d ∧ Wk L j a b e := by
  obtain ⟨vs, e, w1, hl, hn⟩ := w.simple
  obtain ⟨j, hj, w2⟩ := w1.wk
  have h1 : vs.length ≤ (List.range n).length := hn.length_le_of_subset fun c hc => List.mem_range.mpr (w1.within hR ha c hc)
  rw [List.length_range] at h1
  exact ⟨j, e, by omega, hl, w2⟩
theorem BF.done {n : Nat} {L : List Lk} (hR : InR n L) {t : Nat} {T : Tb} (f : BF n L t T) (ht : n ≤ t) : IsDist n L T := by
  refine ⟨fun a b d _ _ h => (f.sound a b d h).2.2, fun a b d k ha w => ?_⟩
  obtain ⟨j, e, hj, hl, w2⟩ := w.short hR ha
  obtain ⟨x, hx, lx⟩ := f.comp a b e j ha (by omega) w2
  exact ⟨x, hx, by omega⟩
end K24

/-! Orders: the lots of counts, the flood, the least counts; the law's last line. No program in sight. -/
namespace K24
def cn (c : List Nat) (i : Nat) : Nat := c.getD i 0
def up (c : List Nat) (s : Nat) : List Nat := c.set s (cn c s + 1)
theorem cn_get {c : List Nat} {i x : Nat} (h : c[i]? = some x) : cn c i = x := by
  unfold cn
  rw [List.getD_eq_getElem?_getD, h]
  rfl
theorem get_cn {c : List Nat} {i : Nat} (h : i < c.length) : c[i]? = some (cn c i) := by
  unfold cn
  rw [List.getD_eq_getElem?_getD, List.getElem?_eq_getElem h]
  rfl
theorem cn_up_same {c : List Nat} {s : Nat} (h : s < c.length) : cn (up c s) s = cn c s + 1 := by
  refine cn_get ?_
  unfold up
  rw [List.getElem?_set_self h]
theorem cn_up_ne {c : List Nat} {s i : Nat} (h : i ≠ s) : cn (up c s) i = cn c i := by
  have e : ∀ x, (c.set s x).getD i 0 = c.getD i 0 := fun x => by
    rw [List.getD_eq_getElem?_getD, List.getElem?_set_ne (Ne.symm h), ← List.getD_eq_getElem?_getD]
  exact e _
theorem up_len {c : List Nat} {s : Nat} : (up c s).length = c.length := by unfold up; rw [List.length_set]
theorem cn_zero (n i : Nat) : cn (List.replicate n 0) i = 0 := by
  unfold cn
  rw [List.getD_eq_getElem?_getD, List.getElem?_replicate]
  split <;> rfl
/-- a step can be done next -/
def Free (L : List Lk) (c : List Nat) (s : Nat) : Prop := ∀ a r, (a, s, r) ∈ L → cn c s + 1 ≤ cn c a + r
structure OkSt (n : Nat) (L : List Lk) (c : List Nat) : Prop where
  len : c.length = n
  top : ∀ i, cn c i ≤ 3
  link : ∀ a b r, (a, b, r) ∈ L → cn c b ≤ cn c a + r
theorem OkSt.start (n : Nat) (L : List Lk) : OkSt n L (List.replicate n 0) :=
  ⟨List.length_replicate, fun i => by rw [cn_zero]; omega, fun a b r _ => by rw [cn_zero, cn_zero]; omega⟩
theorem OkSt.up {n : Nat} {L : List Lk} {c : List Nat} (h : OkSt n L c) {s : Nat} (hs : s < n) (h3 : cn c s < 3) (f : Free L c s) : OkSt n L (up c s) := by
  have hl : s < c.length := by rw [h.len]; exact hs
  refine ⟨up_len.trans h.len, fun i => ?_, fun a b r m => ?_⟩
  · by_cases e : i = s
    · subst e; rw [cn_up_same hl]; omega
    · rw [cn_up_ne e]; exact h.top i
  · have ge : cn c a ≤ cn (K24.up c s) a := by
      by_cases e : a = s
      · subst e; rw [cn_up_same hl]; omega
      · rw [cn_up_ne e]; exact Nat.le_refl _
    by_cases e : b = s
    · subst e
      have := f a r m
      rw [cn_up_same hl]
      omega
    · have := h.link a b r m
      rw [cn_up_ne e]
      omega
theorem OkSt.walk {n : Nat} {L : List Lk} {c : List Nat} (h : OkSt n L c) {k a b d : Nat} (w : Wk L k a b d) : cn c b ≤ cn c a + d := by
  induction w with
  | nil => omega
  | snoc _ m ih =>
    have := h.link _ _ _ m
    omega
theorem OkSt.below {n : Nat} {L : List Lk} {c : List Nat} (h : OkSt n L c) {k a b d : Nat} (w : Wk L k a b d) (f : Free L c b) (ne : a ≠ b) : cn c b + 1 ≤ cn c a + d := by
  cases w with
  | nil => exact absurd rfl ne
  | snoc w' m =>
    have h1 := h.walk w'
    have h2 := f _ _ m
    omega
theorem argmin {p : Nat → Prop} (f : Nat → Nat) : ∀ (m x : Nat), f x ≤ m → p x → ∃ s, p s ∧ ∀ t, p t → f s ≤ f t := by
  intro m
  induction m with
  | zero => intro x hx px; exact ⟨x, px, fun t _ => by omega⟩
  | succ m ih =>
    intro x hx px
    by_cases q : ∃ y, p y ∧ f y < f x
    · obtain ⟨y, py, hy⟩ := q
      exact ih y (by omega) py
    · exact ⟨x, px, fun t pt => by
        by_cases g : f x ≤ f t
        · exact g
        · exact absurd ⟨t, pt, by omega⟩ q⟩
theorem sum_set : ∀ (c : List Nat) (s : Nat), s < c.length → (up c s).sum = c.sum + 1
  | [], s, h => absurd h (Nat.not_lt_zero _)
  | x :: r, 0, _ => by
    show ((x + 1) :: r).sum = (x :: r).sum + 1
    rw [List.sum_cons, List.sum_cons]
    omega
  | x :: r, s + 1, h => by
    have ih := sum_set r s (by simpa using h)
    show (x :: up r s).sum = (x :: r).sum + 1
    rw [List.sum_cons, List.sum_cons, ih]
    omega
theorem sum_le : ∀ (c : List Nat), (∀ i, cn c i ≤ 3) → c.sum ≤ 3 * c.length
  | [], _ => Nat.le_refl _
  | x :: r, h => by
    have h0 : x ≤ 3 := h 0
    have ih := sum_le r fun i => h (i + 1)
    rw [List.sum_cons, List.length_cons]
    omega
/-- a lot of counts that all orders of the lots keep within: it can be climbed to -/
theorem climb {n : Nat} {L : List Lk} (hR : InR n L) (pl : Nat → Nat) (hp : ∀ a b, (a, b, 0) ∈ L → pl a < pl b) {S : List (List Nat)} (hS : ∀ c ∈ S, OkSt n L c)
    (hC : ∀ c ∈ S, ∀ s, s < n → cn c s < 3 → Free L c s → up c s ∈ S) (T : Nat → Nat) (hT : ∀ s, T s ≤ 3) (hL : ∀ a b r, (a, b, r) ∈ L → T b ≤ T a + r) (o : Nat) (ho : o < n) (ho1 : 0 < T o) :
    ∀ (m : Nat) (c : List Nat), 3 * n - c.sum ≤ m → c ∈ S → (∀ s, s < n → cn c s ≤ T s) → cn c o < T o → ∃ c', c' ∈ S ∧ (∀ s, s < n → cn c' s ≤ T s) ∧ cn c' o + 1 = T o ∧ Free L c' o := by
  intro m
  induction m with
  | zero =>
    intro c hm hc hle hlt
    -- the step chosen below would rise the sum above its bound
    exfalso
    obtain ⟨s1, ⟨n1, l1⟩, m1⟩ := argmin (p := fun s => s < n ∧ cn c s < T s) (fun s => cn c s) _ o (Nat.le_refl _) ⟨ho, hlt⟩
    obtain ⟨s, ⟨hn, hs, he⟩, m2⟩ := argmin (p := fun s => s < n ∧ cn c s < T s ∧ cn c s = cn c s1) pl _ s1 (Nat.le_refl _) ⟨n1, l1, rfl⟩
    have fr : Free L c s := fun a r ha => by
      have hb := (hR _ _ _ ha).1
      by_cases q : cn c a < T a
      · have g1 : cn c s1 ≤ cn c a := m1 a ⟨hb, q⟩
        by_cases r0 : r = 0
        · subst r0
          have g2 := hp a s ha
          by_cases g3 : cn c a = cn c s1
          · have g4 : pl s ≤ pl a := m2 a ⟨hb, q, g3⟩
            omega
          · omega
        · omega
      · have g1 := hL a s r ha
        have g2 := hle a hb
        omega
    have ok := hS _ (hC c hc s hn (by have := hT s; omega) fr)
    have h1 := sum_le _ ok.top
    have h2 := sum_set c s (by rw [(hS c hc).len]; exact hn)
    rw [ok.len] at h1
    omega
  | succ m ih =>
    intro c hm hc hle hlt
    obtain ⟨s1, ⟨n1, l1⟩, m1⟩ := argmin (p := fun s => s < n ∧ cn c s < T s) (fun s => cn c s) _ o (Nat.le_refl _) ⟨ho, hlt⟩
    obtain ⟨s, ⟨hn, hs, he⟩, m2⟩ := argmin (p := fun s => s < n ∧ cn c s < T s ∧ cn c s = cn c s1) pl _ s1 (Nat.le_refl _) ⟨n1, l1, rfl⟩
    have fr : Free L c s := fun a r ha => by
      have hb := (hR _ _ _ ha).1
      by_cases q : cn c a < T a
      · have g1 : cn c s1 ≤ cn c a := m1 a ⟨hb, q⟩
        by_cases r0 : r = 0
        · subst r0
          have g2 := hp a s ha
          by_cases g3 : cn c a = cn c s1
          · have g4 : pl s ≤ pl a := m2 a ⟨hb, q, g3⟩
            omega
          · omega
        · omega
      · have g1 := hL a s r ha
        have g2 := hle a hb
        omega
    have hl : s < c.length := by rw [(hS c hc).len]; exact hn
    by_cases fin : s = o ∧ cn c o + 1 = T o
    · obtain ⟨rfl, e⟩ := fin
      exact ⟨c, hc, hle, e, fr⟩
    · have hu := hC c hc s hn (by have := hT s; omega) fr
      have h2 := sum_set c s hl
      refine ih (up c s) (by omega) hu (fun t ht => ?_) ?_
      · by_cases e : t = s
        · subst e; rw [cn_up_same hl]; omega
        · rw [cn_up_ne e]; exact hle t ht
      · by_cases e : o = s
        · subst e
          rw [cn_up_same hl]
          have : ¬ cn c o + 1 = T o := fun z => fin ⟨rfl, z⟩
          omega
        · rw [cn_up_ne e]; exact hlt
/-- a set of lots that has the first one and is closed -/
structure Closed (n : Nat) (L : List Lk) (S : List (List Nat)) : Prop where
  ok : ∀ c ∈ S, OkSt n L c
  start : List.replicate n 0 ∈ S
  next : ∀ c ∈ S, ∀ s, s < n → cn c s < 3 → Free L c s → up c s ∈ S
/-- the least counts -/
abbrev Lc := Nat → Nat → Nat → Option Nat
structure LC (P : List Nat → Nat → Nat → Prop) (G : Lc) : Prop where
  sound : ∀ s j o v, G s j o = some v → ∃ c, P c s o ∧ cn c s + 1 = j ∧ v = cn c o
  least : ∀ c s o, P c s o → ∃ v, G s (cn c s + 1) o = some v ∧ v ≤ cn c o
def setG (G : Lc) (s j o v : Nat) : Lc := fun s' j' o' => if s' = s ∧ j' = j ∧ o' = o then some v else G s' j' o'
theorem LC.start : LC (fun _ _ _ => False) (fun _ _ _ => none) := ⟨fun _ _ _ _ h => (nomatch h), fun _ _ _ h => h.elim⟩
theorem LC.congr {P P' : List Nat → Nat → Nat → Prop} {G : Lc} (h : LC P G) (e : ∀ c s o, P c s o ↔ P' c s o) : LC P' G :=
  ⟨fun s j o v hv => let ⟨c, p, x⟩ := h.sound s j o v hv; ⟨c, (e c s o).mp p, x⟩, fun c s o p => h.least c s o ((e c s o).mpr p)⟩
/-- the new value: min(count, the old one or count) -/
theorem LC.put {P : List Nat → Nat → Nat → Prop} {G : Lc} (h : LC P G) (c : List Nat) (s o : Nat) :
    LC (fun c' s' o' => P c' s' o' ∨ (c' = c ∧ s' = s ∧ o' = o)) (setG G s (cn c s + 1) o (minO (cn c o) (G s (cn c s + 1) o))) := by
  refine ⟨fun s' j' o' v hv => ?_, fun c' s' o' hp => ?_⟩
  · unfold setG at hv
    by_cases q : s' = s ∧ j' = cn c s + 1 ∧ o' = o
    · rw [if_pos q] at hv
      obtain ⟨rfl, rfl, rfl⟩ := q
      have hv' : minO (cn c o') (G s' (cn c s' + 1) o') = v := Option.some.inj hv
      unfold minO at hv'
      cases e : G s' (cn c s' + 1) o' with
      | none =>
        rw [e] at hv'
        have hv2 : (if cn c o' < cn c o' then cn c o' else cn c o') = v := hv'
        rw [if_neg (Nat.lt_irrefl _)] at hv2
        exact ⟨c, .inr ⟨rfl, rfl, rfl⟩, rfl, hv2.symm⟩
      | some x =>
        rw [e] at hv'
        have hv2 : (if x < cn c o' then x else cn c o') = v := hv'
        by_cases g : x < cn c o'
        · rw [if_pos g] at hv2
          subst hv2
          obtain ⟨c1, p, e1, e2⟩ := h.sound s' _ o' x e
          exact ⟨c1, .inl p, e1, e2⟩
        · rw [if_neg g] at hv2
          exact ⟨c, .inr ⟨rfl, rfl, rfl⟩, rfl, hv2.symm⟩
    · rw [if_neg q] at hv
      obtain ⟨c1, p, e⟩ := h.sound s' j' o' v hv
      exact ⟨c1, .inl p, e⟩
  · have key : ∀ x, (∃ v, G s' (cn c' s' + 1) o' = some v ∧ v ≤ x) → ∃ v, setG G s (cn c s + 1) o (minO (cn c o) (G s (cn c s + 1) o)) s' (cn c' s' + 1) o' = some v ∧ v ≤ x := by
      rintro x ⟨v, hv, hl⟩
      unfold setG
      by_cases q : s' = s ∧ cn c' s' + 1 = cn c s + 1 ∧ o' = o
      · rw [if_pos q]
        obtain ⟨rfl, e, rfl⟩ := q
        rw [← e, hv]
        refine ⟨_, rfl, ?_⟩
        show (if v < cn c o' then v else cn c o') ≤ x
        split <;> omega
      · rw [if_neg q]
        exact ⟨v, hv, hl⟩
    rcases hp with hp | ⟨rfl, rfl, rfl⟩
    · exact key _ (h.least c' s' o' hp)
    · unfold setG
      rw [if_pos ⟨rfl, rfl, rfl⟩]
      refine ⟨_, rfl, ?_⟩
      unfold minO
      split <;> omega
/-- all of a closed set's lots are read -/
def AllP (n : Nat) (L : List Lk) (S : List (List Nat)) : List Nat → Nat → Nat → Prop := fun c s o => c ∈ S ∧ s < n ∧ o < n ∧ cn c s < 3 ∧ Free L c s
/-- THE LAW'S LINE -/
theorem line {n : Nat} {L : List Lk} (hR : InR n L) (pl : Nat → Nat) (hp : ∀ a b, (a, b, 0) ∈ L → pl a < pl b) {S : List (List Nat)} (hS : Closed n L S) {G : Lc} (hG : LC (AllP n L S) G)
    {F : Tb} (hF : IsDist n L F) {one oth i j : Nat} (h1 : one < n) (h2 : oth < n) (hi : 1 ≤ i) (hj : 1 ≤ j) (hj3 : j ≤ 3) :
    ∃ v, G oth j one = some v ∧ (i ≤ v ↔ (¬ (one = oth ∧ i = j)) ∧ ∃ d, F one oth = some d ∧ i + d ≤ j) := by
  -- the target
  let T : Nat → Nat := fun s => match F s oth with | some d => j - d | none => 0
  have hoo : F oth oth = some 0 := by
    obtain ⟨e, he, hl⟩ := hF.least oth oth 0 0 h2 (.nil oth)
    rw [he]
    congr 1
    omega
  have To : T oth = j := by
    show (match F oth oth with | some d => j - d | none => 0) = j
    rw [hoo]
    rfl
  have hT3 : ∀ s, T s ≤ 3 := fun s => by
    show (match F s oth with | some d => j - d | none => 0) ≤ 3
    cases F s oth with
    | none => exact Nat.zero_le _
    | some d => show j - d ≤ 3; omega
  have hTL : ∀ a b r, (a, b, r) ∈ L → T b ≤ T a + r := fun a b r m => by
    obtain ⟨ha, hb⟩ := hR _ _ _ m
    show (match F b oth with | some d => j - d | none => 0) ≤ (match F a oth with | some d => j - d | none => 0) + r
    cases eb : F b oth with
    | none => exact Nat.zero_le _
    | some d =>
      obtain ⟨k, w⟩ := hF.sound b oth d hb h2 eb
      obtain ⟨k2, w2⟩ := ((Wk.nil (L := L) a).snoc m).cat w
      obtain ⟨e, he, hl⟩ := hF.least a oth _ k2 ha w2
      rw [he]
      show j - d ≤ j - e + r
      omega
  obtain ⟨c, hc, hcT, hco, hcf⟩ := climb hR pl hp hS.ok hS.next T hT3 hTL oth h2 (by rw [To]; omega) _ _ (Nat.le_refl _) hS.start (fun s _ => by rw [cn_zero]; omega) (by rw [cn_zero, To]; omega)
  rw [To] at hco
  obtain ⟨v, hv, hvl⟩ := hG.least c oth one ⟨hc, h2, h1, by omega, hcf⟩
  rw [hco] at hv
  refine ⟨v, hv, ?_⟩
  obtain ⟨c1, ⟨m1, _, _, _, f1⟩, e1, e2⟩ := hG.sound oth j one v hv
  by_cases q : one = oth
  · subst q
    rw [hoo]
    constructor
    · intro h
      exact ⟨fun z => by omega, 0, rfl, by omega⟩
    · rintro ⟨z, d, hd, hle⟩
      cases hd
      have : i ≠ j := fun e => z ⟨rfl, e⟩
      omega
  · constructor
    · intro h
      refine ⟨fun z => q z.1, ?_⟩
      have hle := hcT one h1
      have hle' : v ≤ (match F one oth with | some d => j - d | none => 0) := Nat.le_trans hvl hle
      cases e : F one oth with
      | none =>
        rw [e] at hle'
        have : v ≤ 0 := hle'
        omega
      | some d =>
        rw [e] at hle'
        have : v ≤ j - d := hle'
        exact ⟨d, rfl, by omega⟩
    · rintro ⟨_, d, hd, hle⟩
      obtain ⟨k, w⟩ := hF.sound one oth d h1 h2 hd
      have := (hS.ok c1 m1).below w f1 q
      omega

/-! ### the flood -/
structure Fl (n : Nat) (L : List Lk) (S : List (List Nat)) (p q : Nat) : Prop where
  ok : ∀ c ∈ S, OkSt n L c
  nodup : S.Nodup
  start : List.replicate n 0 ∈ S
  before : ∀ i c, i < p → S[i]? = some c → ∀ s, s < n → cn c s < 3 → Free L c s → up c s ∈ S
  part : ∀ c, S[p]? = some c → ∀ s, s < q → s < n → cn c s < 3 → Free L c s → up c s ∈ S
theorem Fl.init (n : Nat) (L : List Lk) : Fl n L [List.replicate n 0] 0 0 :=
  ⟨fun c h => by
    have e : c = List.replicate n 0 := by simpa using h
    subst e
    exact OkSt.start n L, by simp, by simp, fun _ _ h => absurd h (Nat.not_lt_zero _), fun _ _ _ h => absurd h (Nat.not_lt_zero _)⟩
theorem Fl.skip {n : Nat} {L : List Lk} {S : List (List Nat)} {p q : Nat} (f : Fl n L S p q) (h : ∀ c, S[p]? = some c → cn c q < 3 → Free L c q → up c q ∈ S) : Fl n L S p (q + 1) :=
  ⟨f.ok, f.nodup, f.start, f.before, fun c hc s hs hn h3 hf => by
    by_cases e : s = q
    · subst e; exact h c hc h3 hf
    · exact f.part c hc s (by omega) hn h3 hf⟩
theorem Fl.add {n : Nat} {L : List Lk} {S : List (List Nat)} {p q : Nat} (f : Fl n L S p q) {c : List Nat} (hc : S[p]? = some c) (hq : q < n) (h3 : cn c q < 3) (hf : Free L c q) (hn : up c q ∉ S) : Fl n L (S ++ [up c q]) p (q + 1) := by
  have hp : p < S.length := (List.getElem?_eq_some_iff.mp hc).1
  have old : ∀ i x, i ≤ p → (S ++ [up c q])[i]? = some x → S[i]? = some x := fun i x hi e => by
    rwa [List.getElem?_append_left (by omega)] at e
  refine ⟨fun x hx => ?_, ?_, List.mem_append_left _ f.start, fun i x hi e s hs h3 hf => List.mem_append_left _ (f.before i x hi (old i x (by omega) e) s hs h3 hf), fun x e s hs hn' h3' hf' => ?_⟩
  · rcases List.mem_append.mp hx with h | h
    · exact f.ok x h
    · have e : x = up c q := by simpa using h
      subst e
      exact (f.ok c (List.mem_of_getElem? hc)).up hq h3 hf
  · rw [List.nodup_append]
    refine ⟨f.nodup, by simp, fun a ha b hb => ?_⟩
    have e : b = up c q := by simpa using hb
    subst e
    rintro rfl
    exact hn ha
  · have e' := old p x (Nat.le_refl _) e
    by_cases g : s = q
    · subst g
      rw [hc] at e'
      cases e'
      exact List.mem_append_right _ (by simp)
    · exact List.mem_append_left _ (f.part x e' s (by omega) hn' h3' hf')
theorem Fl.next {n : Nat} {L : List Lk} {S : List (List Nat)} {p : Nat} (f : Fl n L S p n) : Fl n L S (p + 1) 0 :=
  ⟨f.ok, f.nodup, f.start, fun i c hi e s hs h3 hf => by
    by_cases g : i = p
    · subst g; exact f.part c e s hs hs h3 hf
    · exact f.before i c (by omega) e s hs h3 hf, fun _ _ _ h => absurd h (Nat.not_lt_zero _)⟩
theorem Fl.closed {n : Nat} {L : List Lk} {S : List (List Nat)} {p : Nat} (f : Fl n L S p 0) (h : S.length ≤ p) : Closed n L S :=
  ⟨f.ok, f.start, fun c hc s hs h3 hf => by
    obtain ⟨i, hi, e⟩ := List.getElem_of_mem hc
    exact f.before i c (by omega) (by rw [List.getElem?_eq_getElem hi, e]) s hs h3 hf⟩
def allSt : Nat → List (List Nat)
  | 0 => [[]]
  | n + 1 => (allSt n).map (fun c => 0 :: c) ++ ((allSt n).map (fun c => 1 :: c) ++ ((allSt n).map (fun c => 2 :: c) ++ (allSt n).map (fun c => 3 :: c)))
theorem allSt_len : ∀ n, (allSt n).length = 4 ^ n
  | 0 => rfl
  | n + 1 => by
    have ih := allSt_len n
    unfold allSt
    rw [List.length_append, List.length_append, List.length_append, List.length_map, List.length_map, List.length_map, List.length_map, ih, Nat.pow_succ]
    omega
theorem mem_allSt : ∀ (n : Nat) (c : List Nat), c.length = n → (∀ i, cn c i ≤ 3) → c ∈ allSt n
  | 0, [], _, _ => by simp [allSt]
  | 0, _ :: _, h, _ => by simp at h
  | n + 1, [], h, _ => by simp at h
  | n + 1, x :: r, h, h3 => by
    have ih := mem_allSt n r (by simpa using h) fun i => h3 (i + 1)
    have hx : x ≤ 3 := h3 0
    unfold allSt
    have hx' : x = 0 ∨ x = 1 ∨ x = 2 ∨ x = 3 := by omega
    rcases hx' with rfl | rfl | rfl | rfl
    · exact List.mem_append_left _ (List.mem_map.mpr ⟨r, ih, rfl⟩)
    · exact List.mem_append_right _ (List.mem_append_left _ (List.mem_map.mpr ⟨r, ih, rfl⟩))
    · exact List.mem_append_right _ (List.mem_append_right _ (List.mem_append_left _ (List.mem_map.mpr ⟨r, ih, rfl⟩)))
    · exact List.mem_append_right _ (List.mem_append_right _ (List.mem_append_right _ (List.mem_map.mpr ⟨r, ih, rfl⟩)))
theorem Fl.small {n : Nat} {L : List Lk} {S : List (List Nat)} {p q : Nat} (f : Fl n L S p q) (hn : n ≤ 4) : S.length ≤ 256 := by
  have h := f.nodup.length_le_of_subset (l₂ := allSt n) fun c hc => mem_allSt n c (f.ok c hc).len (f.ok c hc).top
  rw [allSt_len] at h
  have : 4 ^ n ≤ 4 ^ 4 := Nat.pow_le_pow_right (by decide) hn
  omega
end K24

/-! enumerate over a tuple: the iterator is made, turns, ends; as a rule of the hand layer. -/
namespace K24
open PySem PySem.Spec PyProof.Rows L2
/-- enumerate(v), v told by how its iterator begins -/
theorem meets_enum1 {v : Value} {o : Obj} {G : Heap → Prop} (B : Begins v o G) :
    Meets (Builtin.«enumerate.__new__» ⟨[.type "enumerate", v], []⟩) (fun _ R s => G s.heap ∧
      R (.ok (.ret (.ref (s.heap.push o).objs.size))) { s with heap := (s.heap.push o).push { cls := .type "enumerate", data := .fields #[.none, .bool false, .ref s.heap.objs.size, rawInt 0, .none, .none] } }) :=
  .of_wp fun prog w A R s ⟨g0, fin⟩ => by
    obtain ⟨hp, gn, dr, tk, os⟩ := s
    have sub1 := sub_enumerate
    have go : ∀ {A' : Around} {E : Value → Shared → Prop} {Q : Value → Shared → Prop}, Q (.ref hp.objs.size) ⟨hp.push o, gn, dr, tk, os⟩ → wpAny (model prog w) A' (pyIter v) Q E ⟨hp, gn, dr, tk, os⟩ :=
      fun q => B.iter prog w _ _ ⟨hp, gn, dr, tk, os⟩ _ g0 q
    wp_walk using go
    refine wpAny_stack_any fun st => wpAny_pure ?_
    split
    · rename_i c _ _ _ _ _
      cases (c == Value.type "enumerate") <;> (wp_walk using go; exact ⟨_, rfl, fin⟩)
    · wp_walk using go
      exact ⟨_, rfl, fin⟩
theorem enum1 {prog : Program} {w : World} {A : Around} {E : Value → Shared → Prop} {s : Shared} {v : Value} {o : Obj} {G : Heap → Prop} {Q : Value → Shared → Prop} (B : Begins v o G) (g0 : G s.heap)
    (h : ∀ h', IsEnum h' (s.heap.objs.size + 1) s.heap.objs.size 0 .none → h'.get? s.heap.objs.size = some o → (∀ b u, s.heap.get? b = some u → h'.get? b = some u) → Q (.ref (s.heap.objs.size + 1)) { s with heap := h' }) :
    wpAny (model prog w) A (call (.type "enumerate") [v]) Q E s := by
  refine callType_new F.called_enumerate (by decide) (F.typeCall_enumerate_1 _) (F.newCall_enumerate_1 _) (fun obj => F.args_object_init_2 obj _) F.entry_enumerate_new (meets_enum1 B) ⟨g0, ?_⟩
  have z : (s.heap.push o).objs.size = s.heap.objs.size + 1 := Heap.size_push ..
  have he : IsEnum ((s.heap.push o).push { cls := .type "enumerate", data := .fields #[.none, .bool false, .ref s.heap.objs.size, rawInt 0, .none, .none] }) (s.heap.objs.size + 1) s.heap.objs.size 0 .none := by
    have e := Heap.get?_push_size (s.heap.push o) (o := { cls := .type "enumerate", data := .fields #[.none, .bool false, .ref s.heap.objs.size, rawInt 0, .none, .none] }) rfl
    rw [z] at e
    exact e
  show _ ∧ _
  rw [z]
  exact ⟨⟨_, he, rfl⟩, h _ he (Heap.get?_push_of_some _ (Heap.get?_push_size _ B.free)) fun b u e => Heap.get?_push_of_some _ (Heap.get?_push_of_some _ e)⟩
/-- the tuple at a, each item in a new pair -/
def ItE (K : PySem.W.Frag) (a : Addr) : It :=
  ⟨fun i H => ∃ (xs : List V) (x : V), SqT K H a xs ∧ xs[i]? = some x, fun i H v H' => ∃ T x, v = .ref T ∧ H T = none ∧ H' = upd H T (.tup [.int (i : Nat), x]) ∧ ∀ xs, SqT K H a xs → xs[i]? = some x,
    fun i H => ∃ xs : List V, SqT K H a xs ∧ xs.length = i⟩
theorem it_ne {s : Shared} {a it i : Nat} {ws : Array Value} (hit : s.heap.IsTupleIter it a i) (ht : s.heap.IsTuple a ws) : a ≠ it := fun z => by
  obtain ⟨o1, h1, c1, _⟩ := ht
  obtain ⟨o2, h2, c2, _⟩ := hit
  rw [z, h2] at h1
  cases h1
  rw [c2] at c1
  exact absurd c1 (by decide)
theorem en_ne {s : Shared} {a e it : Nat} {i : Int} {old : Value} {ws : Array Value} (he : IsEnum s.heap e it i old) (ht : s.heap.IsTuple a ws) : e ≠ a := fun z => by
  obtain ⟨o1, h1, c1, _⟩ := ht
  rw [← z] at h1
  have he' : s.heap.get? e = some { cls := .type "enumerate", data := .fields #[.none, .bool false, .ref it, rawInt i, .none, old] } := he
  rw [he'] at h1
  cases h1
  have c2 : Value.type "enumerate" = Value.type "tuple" := c1
  injection c2 with c3
  exact absurd c3 (by decide)
theorem turn_enumT {P : Program} {w : World} {K : PySem.W.Frag} {elts : List Expr} {kk : Nat} {tpos : Pos} (a e it : Addr) :
    Turn P w K (.Tuple elts kk tpos) (ItE K a) [e, it] e (fun i h => (∃ old, IsEnum h e it ((i : Nat) : Int) old) ∧ h.IsTupleIter it a i ∧ e ≠ it) where
  mem := by simp
  obj := fun i h st b hb => by
    obtain ⟨⟨old, he⟩, ⟨o, ho, hc, hd⟩, _⟩ := st
    rcases (show b = e ∨ b = it by simpa using hb) with rfl | rfl
    · exact ⟨_, he, fun v q => nomatch q⟩
    · exact ⟨o, ho, fun v q => by rw [hd] at q; cases q⟩
  keep := fun i h h' ⟨⟨old, he⟩, hi, hne⟩ k => ⟨⟨old, k e (by simp) _ he⟩, hi.at fun o q => k it (by simp) o q, hne⟩
  item := by
    intro X hP hw hK hc i pins s σ H E I hf ⟨⟨old, he⟩, hit, hne⟩ ⟨xs, x, hq, hx⟩
    subst hP hw hK
    obtain ⟨its, rv, p, hz⟩ := I.tuple hq
    have ht : s.heap.IsTuple a its.toArray := p
    obtain ⟨u, hu, ru⟩ := rv.get hx
    have hai := it_ne hit ht
    have hel : e < s.heap.objs.size := Heap.lt_size he
    have hil : it < s.heap.objs.size := by obtain ⟨_, q, _⟩ := hit; exact Heap.lt_size q
    have hef : e ∉ [it, a] := by simp [hne, en_ne he ht]
    have D := Draws.tuple (prog := X.prog) (w := X.w) (A := X.A.in1) (I.ok.hd hc) it a hai its.toArray
    have hlt : i < its.toArray.size := by
      have := (List.getElem?_eq_some_iff.mp hu).1
      simpa using this
    refine wpAny_pyNext_enum_itemC D he ⟨hit, ht⟩ hlt hne hef fun y h' tk hy ho ⟨hit', ht'⟩ hT hsz hk => ?_
    have ey : y = u := by
      have h1 : its.toArray[i]? = some y := hy
      have h2 : its.toArray[i]? = some u := by simpa using hu
      rw [h1] at h2
      exact Option.some.inj h2
    subst ey
    refine ⟨_, rfl, wpAny_letOwnedTupleGo_enum (s := { s with heap := h', toks := tk + 1 }) ho fun h2 he2 sb => ?_⟩
    have hT2 : h2.get? s.heap.objs.size = some { cls := .type "tuple", data := .seq #[.int i tk, y] } := (sb.2 _ (Nat.ne_of_gt hel)).trans hT
    have I1 : Inv X pins σ (upd H s.heap.objs.size (.tup [.int (i : Nat), x])) { s with heap := h2, toks := tk + 1 } := by
      refine I.turnedNew (ch := [e, it]) (fun b ob hb q => ?_) hf (Nat.le_refl _) ⟨by show 2 ≤ sizeLine; decide, [.int i tk, y], .cons ⟨_, rfl⟩ (.cons ru .nil), ⟨_, hT2, rfl, _, rfl⟩⟩
      have n1 : b ≠ e := fun z => hb (by simp [z])
      have n2 : b ≠ it := fun z => hb (by simp [z])
      exact (sb.2 b n1).trans (hk b ob n1 n2 q)
    refine ⟨.ref s.heap.objs.size, _, I1, rfl, ⟨_, x, rfl, I.hok.fresh (Nat.le_refl _), rfl, fun ys hy' => by rw [I.tuple_inj hy' hq]; exact hx⟩, ⟨⟨y, ?_⟩, hit'.at fun o q => (sb.2 it (Ne.symm hne)).trans q, hne⟩, fun b hb => ?_⟩
    · rw [show ((i + 1 : Nat) : Int) = (i : Int) + 1 by omega]
      exact he2
    · have hb' : b < s.heap.objs.size := by
        rcases (show b = e ∨ b = it by simpa using hb) with rfl | rfl
        · exact hel
        · exact hil
      rw [upd_ne (Nat.ne_of_lt hb')]
      exact (hf b hb).1
  done := by
    intro X hP hw hK hc i pins s σ H E I hf ⟨⟨old, he⟩, hit, hne⟩ ⟨xs, hq, hx⟩
    subst hP hw hK
    obtain ⟨its, rv, p, hz⟩ := I.tuple hq
    obtain ⟨f0, f1, f2, f3, f4, f5⟩ := hf it (by simp)
    have ht : s.heap.IsTuple a its.toArray := p
    have hl := rv.length
    have D := Draws.tuple (prog := X.prog) (w := X.w) (A := X.A.in1) (I.ok.hd hc) it a (it_ne hit ht) its.toArray
    have ei : its.toArray.size = i := by rw [List.size_toArray]; omega
    exact wpAny_pyNext_enum_endD D he ⟨by rw [ei]; exact hit, ht⟩ fun h' eb => ⟨rfl, I.turned (t' := s.toks) (fun b o hb q => eb b o hb q) f0 f1 f3 f4 f5⟩
  self := fun A i s Q E ⟨⟨_, he⟩, _⟩ h => wpAny_pyIter_enum he h
def iEnT (K : PySem.W.Frag) (ta : TA) : TI := fun σ H R => ta σ H fun vs H1 => ∃ a xs, vs = [.ref a] ∧ SqT K H1 a xs ∧ R (ItE K a) H1
theorem pi_enumT {X : Cx} {e : Expr} {ta : TA} {p pos tpos : Pos} {elts : List Expr} {kk : Nat} (hg : Gl X "enumerate") (hm : X.mg "enumerate" = none) (ha : PA X [e] ta) (hs : starEach [e] X.env = [(false, eval e X.env)] := by rfl) :
    PI X (.Tuple elts kk tpos) (.Call (.Name "enumerate" p) [e] [] pos) (iEnT X.K ta) := by
  refine ⟨fun pins s σ H R I h => Call_ (ld_blt I hg hm boot_enumerate (PyProof.Rows.callWith_type1 (thn (ha.run pos pins s σ H _ I h) fun us s1 ⟨vs, H1, I1, r1, a, xs, ex, hq, q⟩ => ?_) hs rfl))⟩
  subst ex
  obtain ⟨u, rfl, ru⟩ := vals1 r1
  obtain rfl : u = Value.ref a := ru
  obtain ⟨its, rv, p', hz⟩ := I1.tuple hq
  have ht : s1.heap.IsTuple a its.toArray := p'
  refine enum1 (begins_tuple a its.toArray) ht fun h' he ho hk => wpAny_pyIter_enum he ?_
  have I2 : Inv X pins σ H1 { s1 with heap := h' } := I1.kept (t' := s1.toks) hk
  refine ⟨s1.heap.objs.size + 1, [s1.heap.objs.size + 1, s1.heap.objs.size], _, _, H1, rfl, I2, turn_enumT a (s1.heap.objs.size + 1) s1.heap.objs.size, ⟨⟨.none, he⟩, ⟨_, ho, rfl, rfl⟩, Nat.succ_ne_self _⟩, fun b hb => ?_, q⟩
  have hle : s1.heap.objs.size ≤ b := by
    rcases (show b = s1.heap.objs.size + 1 ∨ b = s1.heap.objs.size by simpa using hb) with z | z
    · rw [z]; exact Nat.le_succ _
    · rw [z]; exact Nat.le_refl _
  exact I1.fpOk hle (I1.hok.fresh hle)
theorem walk_enumT {K : PySem.W.Frag} {a : Addr} {xs : List V} : Walk (ItE K a) xs.length (fun H => SqT K H a xs) (YPair (fun i => some (.int (i : Nat))) (fun i => xs[i]?)) := by
  refine ⟨fun i _ hi q => ⟨xs, xs[i], q, by simp [hi]⟩, fun _ q => ⟨xs, q, rfl⟩, fun i H v H' _ q y => ?_⟩
  obtain ⟨T, x, h1, h2, h3, h4⟩ := y
  exact ⟨T, .int (i : Nat), x, h1, h2, h3, rfl, h4 xs q⟩
end K24

/-! Own rules: dicts whose keys are pairs of a pair; {k: v for ..} and {k: v} with keys that are tuples; a tuple times an int from 1 on. -/
namespace K24
open PySem PySem.Spec PyProof.Rows L2

/-! ### {k: v for x in ..}, keys tuples of ints -/
theorem dictSetT {X : Cx} {pins : List (Addr × Obj)} {σ : L2.St} {H : Hp} {s : Shared} {D b : Addr} {kvs : List (List Key × V)} {k : List Key} {v : V} {r : Value} {E : Value → Shared → Prop} {Q : Unit → Shared → Prop} (hu : X.A.units < cLine) (I : Inv X pins σ H s)
    (hD : H D = some (.dT kvs)) (hb : H b = some (.tup (k.map kV))) (hz : kvs.length < sizeLine) (rv : RelV v r) (fin : ∀ s', Inv X pins σ (upd H D (.dT (putK kvs k v))) s' → Q () s') : wpAny (model X.prog X.w) X.A (dictSet D (.ref b) r) Q E s := by
  obtain ⟨z, hd, xs, rel, dd⟩ := dt_of I.hok hD
  have zx : xs.length ≤ sizeLine := by rw [← Paired.length rel]; exact z
  have zk : (putK kvs k v).length ≤ sizeLine := by have := length_putK kvs k v; omega
  refine wpAny_dictSet_heap (knd := tupleKind (mixKind X.prog X.w)) (hsz := zx) hu (key_of I.hok hb) dd fun h' ⟨q, es, ep, e1, e2, e3, e4, _, e5⟩ hs => fin _ ?_
  refine d_write I (by rw [hD]; trivial) hs ⟨q, e1⟩ ⟨zk, hd, _, (rel.put k hb rv).keeps fun c ys ec => ?_, q, es, ep, e1, e2, e3, e4, e5⟩
  rw [upd_ne (ne_of ec hD fun z => nomatch z)]
  exact ec
def tDcT (wi : TI) (g : TG) (tk tv : TE) (vs : List Nat) : TE := fun σ H Q => wi σ H fun J H1 => ∀ D, H1 D = none → ∃ W : Nat → Nat → Hp → Prop, (∃ m, W 0 m (upd H1 D (.dT []))) ∧ ∀ i m H2, W i m H2 →
  (J.stop i H2 ∧ Q (.ref D) H2) ∨ (J.go i H2 ∧ ∃ Nx : Hp → Prop, (∀ H', Nx H' → ∃ m', m' < m ∧ W (i + 1) m' H') ∧ ∀ x H', J.yld i H2 x H' → g x (wipe σ vs) H' fun σ2 H3 => wipe σ2 vs = wipe σ vs ∧ tk σ2 H3 fun y H4 => tv σ2 H4 fun z H5 =>
    ∃ b kvs k, y = .ref b ∧ H5 b = some (.tup (k.map kV)) ∧ H5 D = some (.dT kvs) ∧ kvs.length < sizeLine ∧ Nx (upd H5 D (.dT (putK kvs k z))))
theorem pe_dcT {X : Cx} {kx vx tg iter : Expr} {scope : Scope} {own : List (Str × Nat)} {pos : Pos} {wi : TI} {g : TG} {tk tv : TE} (hu : X.A.units < cLine) (hc : X.calm = true) (hN : X.N.Nodup) (hi : PI X tg iter wi) (ok : BlkOk X.N X.env.scope scope own)
    (hg : ∀ (s : Shared) (H : Hp) (C : Addr) (cl : List (Str × Addr)) (fp : List Addr), PG (X.blk s H scope (compEnvC scope cl C X.env) fp) tg g)
    (hk : ∀ (s : Shared) (H : Hp) (C : Addr) (cl : List (Str × Addr)) (fp : List Addr), PE (X.blk s H scope (compEnvC scope cl C X.env) fp) kx tk)
    (he : ∀ (s : Shared) (H : Hp) (C : Addr) (cl : List (Str × Addr)) (fp : List Addr), PE (X.blk s H scope (compEnvC scope cl C X.env) fp) vx tv) (hs : ∀ x, foldedSetIterable iter X.env x = pure x := by intro _; rfl) :
    PE X (.DictComp kx vx [⟨tg, iter, [], 0⟩] scope pos) (tDcT wi g tk tv (own.map (·.2))) := by
  refine ⟨fun pins s σ H Q I wish => ?_⟩
  have frees : ∀ y ∈ scope.names, y.2 = .free → ∃ c, X.env.cells.lookup y.1 = some c := fun y hy e => by
    rcases ok.free y hy e with k | k
    · exact I.ok.has _ (.inl k)
    · exact I.ok.has _ (.inr k)
  rw [arm_eval_DictComp]
  refine wpAny_comprehension_free (use := none) rfl hs (closure_ok frees) ok.kind (fun y hy e => by rw [ok.uniq y hy, e]) (thn (hi.run pins s σ H _ I wish) fun xv sa ha => thn ha fun itv sb hb => ?_)
  obtain ⟨it, fp, tn, J, Hb, rfl, Ib, T, tb, fb, q⟩ := hb
  refine wpAny_newObj_type (newEnv_comp ?_)
  generalize eD : sb.heap.objs.size = D
  have newD : Hb D = none := Ib.hok.fresh (Nat.le_of_eq eD)
  obtain ⟨W, ⟨m0, w0⟩, turn⟩ := q D newD
  -- the dict is laid
  generalize es : ({ sb with heap := sb.heap.push { cls := .type "dict", data := .dict #[] } } : Shared) = sc
  have hsc : sc.heap = sb.heap.push { cls := .type "dict", data := .dict #[] } := by rw [← es]
  have Ic : Inv X pins σ (upd Hb D (.dT [])) sc := by
    rw [← es]
    exact Ib.laid (t' := sb.toks) (fun _ _ e => Heap.get?_push_of_some _ e) (Nat.le_of_eq eD) (eD ▸ dt_empty sb.heap Ib.big)
  generalize eH : upd Hb D (.dT []) = Hc at Ic w0
  have lts : ∀ b ∈ fp, b < sb.heap.objs.size := fun b hb => let ⟨_, e, _⟩ := T.obj _ _ tb b hb; Heap.lt_size e
  have fc : ∀ b ∈ fp, FpOk X pins Hc b ∧ b < sc.heap.objs.size := fun b hb => by
    have lt := lts b hb
    refine ⟨⟨?_, (fb b hb).2⟩, by rw [hsc, Heap.size_push]; exact Nat.lt_succ_of_lt lt⟩
    rw [← eH, upd_ne (by rw [← eD]; exact Nat.ne_of_lt lt)]
    exact (fb b hb).1
  have tc : tn 0 sc.heap := T.keep _ _ _ tb fun b _ o e => by rw [hsc]; exact Heap.get?_push_of_some _ e
  have I4 := block_start Ic ok hN fc
  generalize ecl : cellsFrom (sc.heap.objs.size + 1) scope.names (cloFrom X.env.cells scope.names []) = cl at I4
  have pg := hg sc Hc sc.heap.objs.size cl fp
  have pk := hk sc Hc sc.heap.objs.size cl fp
  have pv' := he sc Hc sc.heap.objs.size cl fp
  have goal' : codeAny (model X.prog X.w) X.A (.compStart (.DictComp kx vx [⟨tg, iter, [], 0⟩] scope pos) 0 (.ref it) (.ref D) (compEnvC scope cl sc.heap.objs.size X.env))
      (compPost (model X.prog X.w) X.A X.xe none (EP X pins σ Q) (.ref D) sc.heap.objs.size) { sc with heap := pushCells (sc.heap.push { cls := .type "dict", data := .dict #[] }) scope.names } := by
    generalize ece : compEnvC scope cl sc.heap.objs.size X.env = ce at I4 pg pk pv' ⊢
    have eL : ce.locals = sc.heap.objs.size := by subst ece; rfl
    generalize ed : ({ sc with heap := pushCells (sc.heap.push { cls := .type "dict", data := .dict #[] }) scope.names } : Shared) = sd at I4 ⊢
    have td : tn 0 sd.heap := T.keep _ _ _ tc fun b _ o e => by rw [← ed]; exact pushCells_keeps _ _ _ _ (Heap.get?_push_of_some _ e)
    have fpo : ∀ {σ' : L2.St} {H' : Hp} {s' : Shared}, Inv (X.blk sc Hc scope ce fp) [] σ' H' s' → (∀ b ∈ fp, H' b = none) → ∀ b ∈ fp, FpOk (X.blk sc Hc scope ce fp) [] H' b := fun I' n b hb =>
      ⟨n b hb, (I'.ok.exf b hb).1, I'.ok.exfs b hb, .inl hb, fun x c e => (I'.ok.exf b hb).2 x c e, fun p hp => absurd (show p ∈ ([] : List (Addr × Obj)) ++ [] from hp) (by simp)⟩
    refine codeAny_compStart_dict ?loop (T.self X.A 0 _ _ _ td ?loop)
    refine compLoop_anyD (fun n s' => ∃ i H', Inv (X.blk sc Hc scope ce fp) [] (wipe σ (own.map (·.2))) H' s' ∧ tn i s'.heap ∧ (∀ b ∈ fp, H' b = none) ∧ W i n H') ?_ m0 ⟨0, Hc, I4, td, fun b hb => (fc b hb).1.1, w0⟩
    rintro n s5 ⟨i, H5, I5, t5, n5, w5⟩
    rcases turn i n H5 w5 with ⟨stop, fin⟩ | ⟨go, Nx, down, step⟩
    · refine thnF (T.done (X.blk sc Hc scope ce fp) rfl rfl rfl hc i [] s5 _ H5 (fun _ _ => False) I5 (fpo I5 n5) t5 stop) fun r s6 ⟨hr, I6⟩ => ?_
      subst hr
      have I7 : Inv X pins σ H5 s6 := Ic.call' (ch := fp) I6.os I6.base I6.hok I6.bare fun b hb => ⟨(fc b hb).1.2.2.2.1, (fc b hb).1.2.1, (fc b hb).1.2.2.2.2.1, (fc b hb).1.2.2.2.2.2⟩
      have noC : H5 sc.heap.objs.size = none := eL ▸ (show H5 ce.locals = none from I6.free)
      obtain ⟨m, hn, _⟩ := I6.loc
      obtain ⟨f0, f1, f2, f3, f4, f5⟩ := Ic.fpOk (H' := H5) (Nat.le_refl _) noC
      exact ⟨m, eL ▸ (show s6.heap.Ns ce.locals m from hn), fun h2 sb2 => ⟨.ref D, H5, I7.turned (t' := s6.toks) (fun b o hb e => (sb2.2 b hb).trans e) f0 f1 f3 f4 f5, rfl, fin⟩⟩
    · refine thnF (T.item (X.blk sc Hc scope ce fp) rfl rfl rfl hc i [] s5 _ H5 (fun _ _ => False) I5 (fpo I5 n5) t5 go) fun r s6 ⟨u, hr, h6⟩ => ?_
      subst hr
      refine thnF h6 fun _ s7 ⟨x, H7, I7, r7, y7, t7, n7⟩ => ?_
      have I7' := I7.pinned (fpo I7 n7) (T.obj _ _ t7)
      refine thnF (pg.run _ s7 _ H7 x u _ I7' r7 (step x H7 y7)) fun _ s8 ⟨σ8, H8, I8, same8, q8⟩ => ?_
      refine wpAny_tests_nil ?_
      simp only [if_true]
      refine thnF (pk.run _ s8 σ8 H8 _ I8 q8) fun z1 s9 ⟨y1, H9, I9, r9, q9⟩ => ?_
      refine thnF (pv'.run _ s9 σ8 H9 _ I9 q9) fun z2 s10 ⟨y2, H10, I10, r10, b, kvs, k, ek, hb, hD10, hz10, nx⟩ => ?_
      subst ek
      obtain rfl : z1 = Value.ref b := r9
      refine dictSetT (X := X.blk sc Hc scope ce fp) hu I10 hD10 hb hz10 r10 fun s11 I11 => ?_
      obtain ⟨m', hm, w'⟩ := down _ nx
      have pin' : ∀ b ∈ fp, ∀ o, s7.heap.get? b = some o → s11.heap.get? b = some o ∧ (upd H10 D (.dT (putK kvs k y2))) b = none := fun b hb o e =>
        let z := I11.pin (b, o) (List.mem_append_right _ (List.mem_append_right _ (mem_pinsAt hb e)))
        ⟨z.1, z.2.1⟩
      have len8 : (wipe σ (own.map (·.2))).length = σ8.length := by rw [← same8, wipe_length]
      refine ⟨m', hm, i + 1, _, (I11.unpinned (pins := [])).weak len8 (fun j v e => ?_), T.keep _ _ _ t7 fun b hb o e => (pin' b hb o e).1, fun b hb => ?_, w'⟩
      · rw [← same8] at e
        exact (wipe_some e).1
      · obtain ⟨o, e, _⟩ := T.obj _ _ t7 b hb
        exact (pin' b hb o e).2

  exact goal'
/-- over a walk: Pv by the turn and the heap (the new dict at D within) -/
theorem dcT_it {J : It} {n : Nat} {G : Hp → Prop} {Y : Nat → Hp → V → Hp → Prop} (w : Walk J n G Y) {g : TG} {tk tv : TE} {vs : List Nat} {σ : L2.St} {H1 : Hp} {D : Addr} {Qd : Hp → Prop} (Pv : Nat → Hp → Prop) (h0 : Pv 0 (upd H1 D (.dT []))) (hG : ∀ i H, i ≤ n → Pv i H → G H)
    (hs : ∀ i x H H', i < n → Pv i H → Y i H x H' → g x (wipe σ vs) H' fun σ2 H3 => wipe σ2 vs = wipe σ vs ∧ tk σ2 H3 fun y H4 => tv σ2 H4 fun z H5 =>
      ∃ b kvs k, y = .ref b ∧ H5 b = some (.tup (k.map kV)) ∧ H5 D = some (.dT kvs) ∧ kvs.length < sizeLine ∧ Pv (i + 1) (upd H5 D (.dT (putK kvs k z)))) (hd : ∀ H, Pv n H → Qd H) :
    ∃ W : Nat → Nat → Hp → Prop, (∃ m, W 0 m (upd H1 D (.dT []))) ∧ ∀ i m H2, W i m H2 →
      (J.stop i H2 ∧ Qd H2) ∨ (J.go i H2 ∧ ∃ Nx : Hp → Prop, (∀ H', Nx H' → ∃ m', m' < m ∧ W (i + 1) m' H') ∧ ∀ x H', J.yld i H2 x H' → g x (wipe σ vs) H' fun σ2 H3 => wipe σ2 vs = wipe σ vs ∧ tk σ2 H3 fun y H4 => tv σ2 H4 fun z H5 =>
        ∃ b kvs k, y = .ref b ∧ H5 b = some (.tup (k.map kV)) ∧ H5 D = some (.dT kvs) ∧ kvs.length < sizeLine ∧ Nx (upd H5 D (.dT (putK kvs k z)))) := by
  refine ⟨fun i m H => m = n - i ∧ i ≤ n ∧ Pv i H, ⟨n, by simp, Nat.zero_le _, h0⟩, ?_⟩
  rintro i m H ⟨rfl, hi, p⟩
  have q := hG i H hi p
  by_cases lt : i < n
  · exact .inr ⟨w.goes i H lt q, Pv (i + 1), fun H' p' => ⟨n - (i + 1), by omega, rfl, lt, p'⟩, fun x H' y => hs i x H H' lt p (w.yields i H x H' lt q y)⟩
  · obtain rfl : i = n := by omega
    exact .inl ⟨w.stops H q, hd H p⟩
/-- the same for keys that are ints (the library's reading tDc, no test) -/
theorem dcK_it {J : It} {n : Nat} {G : Hp → Prop} {Y : Nat → Hp → V → Hp → Prop} (w : Walk J n G Y) {g : TG} {tk tv : TE} {vs : List Nat} {σ : L2.St} {H1 : Hp} {D : Addr} {Qd : Hp → Prop} (Pv : Nat → Hp → Prop) (h0 : Pv 0 (upd H1 D (.dK []))) (hG : ∀ i H, i ≤ n → Pv i H → G H)
    (hs : ∀ i x H H', i < n → Pv i H → Y i H x H' → g x (wipe σ vs) H' fun σ2 H3 => wipe σ2 vs = wipe σ vs ∧ tk σ2 H3 fun y H4 => tv σ2 H4 fun z H5 =>
      ∃ kvs k, y = kV k ∧ H5 D = some (.dK kvs) ∧ kvs.length < sizeLine ∧ Pv (i + 1) (upd H5 D (.dK (putK kvs k z)))) (hd : ∀ H, Pv n H → Qd H) :
    ∃ W : Nat → Nat → Hp → Prop, (∃ m, W 0 m (upd H1 D (.dK []))) ∧ ∀ i m H2, W i m H2 →
      (J.stop i H2 ∧ Qd H2) ∨ (J.go i H2 ∧ ∃ Nx : Hp → Prop, (∀ H', Nx H' → ∃ m', m' < m ∧ W (i + 1) m' H') ∧ ∀ x H', J.yld i H2 x H' → g x (wipe σ vs) H' fun σ2 H3 => wipe σ2 vs = wipe σ vs ∧ tYes σ2 H3 fun b H3 =>
        if b = true then tk σ2 H3 fun y H4 => tv σ2 H4 fun z H5 => ∃ kvs k, y = kV k ∧ H5 D = some (.dK kvs) ∧ kvs.length < sizeLine ∧ Nx (upd H5 D (.dK (putK kvs k z))) else Nx H3) := by
  refine ⟨fun i m H => m = n - i ∧ i ≤ n ∧ Pv i H, ⟨n, by simp, Nat.zero_le _, h0⟩, ?_⟩
  rintro i m H ⟨rfl, hi, p⟩
  have q := hG i H hi p
  by_cases lt : i < n
  · refine .inr ⟨w.goes i H lt q, Pv (i + 1), fun H' p' => ⟨n - (i + 1), by omega, rfl, lt, p'⟩, fun x H' y => ?_⟩
    exact hs i x H H' lt p (w.yields i H x H' lt q y)
  · obtain rfl : i = n := by omega
    exact .inl ⟨w.stops H q, hd H p⟩

/-! ### {k: v}, k a tuple of ints -/
def tDispT (tk tv : TE) : TE := fun σ H Q => ∀ p, H p = none → tk σ (upd H p (.dT [])) fun x H1 => tv σ H1 fun y H2 => H2 p = some (.dT []) ∧ ∃ b k, x = .ref b ∧ H2 b = some (.tup (k.map kV)) ∧ Q (.ref p) (upd H2 p (.dT [(k, y)]))
theorem pe_dispT1 {X : Cx} {k v : Expr} {pos : Pos} {tk tv : TE} (hu : X.A.units + 1 < cLine) (hk : PE X k tk) (hv : PE X v tv) : PE X (.Dict [some k] [v] pos) (tDispT tk tv) := by
  refine ⟨fun pins s σ H Q I h => ?_⟩
  have fr := I.hok.fresh (Nat.le_refl s.heap.objs.size)
  have I1 := I.laid (a := s.heap.objs.size) (o := .dT []) (h' := s.heap.push { cls := .type "dict", data := .dict #[] }) (t' := s.toks) (fun _ _ q => Heap.get?_push_of_some _ q) (Nat.le_refl _) (dt_empty s.heap I.big)
  have shape : (evalEachOpt [some k] X.env).zip ((evalEach [v] X.env).map fun v => do let x ← v; standAt pos; pure x) = (pairTrees [some k] [v] X.env pos).map fun p => (some p.1, p.2) := rfl
  rw [arm_eval_Dict, shape, dictDisplay_pairs _ (by simp [pairTrees]) (by simp [pairTrees])]
  refine wpAny_bind (wpAny_standAt (wpAny_bind (wpAny_subDictH (knd := tupleKind (mixKind X.prog X.w)) (show X.A.units < cLine by omega) (by simp [pairTrees]) ?_)))
  refine pairTrees_cons_walk (thn (hk.run pins _ σ _ _ I1 (h _ fr)) fun u s1 ⟨x, H1, J1, rx, q1⟩ => thn (hv.run pins s1 σ H1 _ J1 q1) fun r s2 ⟨y, H2, J2, ry, e, b, ks, ex, eb, fin⟩ => pairTrees_nil_walk ?_)
  subst ex
  obtain rfl : u = Value.ref b := rx
  obtain ⟨z, hd, xs, rel, dd⟩ := dt_of J2.hok e
  cases rel
  refine ⟨[(ks, b, r)], ⟨rfl, rfl, key_of J2.hok eb, trivial⟩, dd, fun h' tk' ⟨o, es, ep, o1, o2, o3, o4, _, o6⟩ hs => wpAny_pure ⟨.ref s.heap.objs.size, _, ?_, rfl, fin⟩⟩
  refine d_write J2 (by rw [e]; trivial) hs ⟨o, o1⟩ ⟨by show 1 ≤ sizeLine; decide, hd, [(ks, b, r)], .cons ⟨rfl, ?_, ry⟩ .nil, o, es, ep, o1, o2, o3, o4, o6⟩
  rw [upd_ne (ne_of eb e fun q => nomatch q)]
  exact eb
end K24

/-! Own rules: dicts whose keys are ((int, int), int): made, asked, stored. The dict is an `ext` object told by its entries, the keys' tuples are tracked. -/
namespace K24
open PySem PySem.Spec PyProof.Rows L2
/-- the key ((s, j), o) -/
def nk (s j o : Int) : NestedKey := .tup [.tup [.num s, .num j], .num o]
theorem nk_inj {s j o s' j' o' : Int} (h : nk s j o = nk s' j' o') : s = s' ∧ j = j' ∧ o = o' := by
  unfold nk at h
  injection h with h
  injection h with h1 h2
  injection h2 with h2 _
  injection h2 with h2
  injection h1 with h1
  injection h1 with h3 h4
  injection h4 with h4 _
  injection h3 with h3
  injection h4 with h4
  exact ⟨h3, h4, h2⟩
/-- at b stands that key's tuple -/
def KeyN (H : Hp) (k : NestedKey) (b : Addr) : Prop := ∃ s j o t, k = nk s j o ∧ H b = some (.tup [.ref t, .int o]) ∧ H t = some (.tup [.int s, .int j])
/-- entries and their keys' places -/
abbrev KN (R : NestedKey → Addr → Prop) : List (NestedKey × V) → List (NestedKey × Addr × Value) → Prop := Paired fun p q => p.1 = q.1 ∧ R p.1 q.2.1 ∧ RelV p.2 q.2.2
section
variable {R : NestedKey → Addr → Prop} {kvs : List (NestedKey × V)} {xs : List (NestedKey × Addr × Value)}
theorem KN.val (r : KN R kvs xs) (k : NestedKey) : RelO (valV kvs k) ((atKey xs k).map (·.2)) := by
  induction r with
  | nil => trivial
  | @cons p q ps qs h t ih =>
    by_cases e : p.1 = k
    · have e2 : q.1 = k := h.1 ▸ e
      have a : atKey (q :: qs) k = some q.2 := by unfold atKey; rw [List.find?_cons, decide_eq_true e2]; rfl
      rw [valV_pos e, a]
      exact h.2.2
    · have e2 : ¬ q.1 = k := fun z => e (h.1.trans z)
      have a : atKey (q :: qs) k = atKey qs k := by unfold atKey; rw [List.find?_cons, decide_eq_false e2]
      rw [valV_neg e, a]
      exact ih
theorem KN.put (r : KN R kvs xs) {k : NestedKey} {b : Addr} {y : V} {u : Value} (hb : R k b) (ry : RelV y u) : KN R (putK kvs k y) (storedH xs k b u) := by
  have known : (kvs.any fun kv => decide (kv.1 = k)) = (atKey xs k).isSome := by rw [valV_any, (r.val k).isSome_eq, Option.isSome_map]
  have there : KN R (kvs.map fun kv => if kv.1 = k then (kv.1, y) else kv) (xs.map (putAt k u)) := by
    clear known
    induction r with
    | nil => exact .nil
    | @cons p q ps qs h t ih =>
      refine .cons ?_ ih
      by_cases e : p.1 = k
      · have e2 : q.1 = k := h.1 ▸ e
        unfold putAt
        dsimp only
        rw [if_pos e, if_pos e2]
        exact ⟨h.1, h.2.1, ry⟩
      · have e2 : ¬ q.1 = k := fun z => e (h.1.trans z)
        unfold putAt
        dsimp only
        rw [if_neg e, if_neg e2]
        exact h
  unfold putK storedH
  rw [known]
  by_cases q : (atKey xs k).isSome = true
  · rw [if_pos q, if_pos q]; exact there
  · rw [if_neg q, if_neg q]; exact Paired.snoc r ⟨rfl, hb, ry⟩
theorem KN.keeps {S : NestedKey → Addr → Prop} (r : KN R kvs xs) (h : ∀ k b, R k b → S k b) : KN S kvs xs := Paired.mapP r fun _ _ z => ⟨z.1, h _ _ z.2.1, z.2.2⟩
end
/-- what stands at d: the entries xs -/
def PhiN (P : Program) (w : World) (d : Addr) (xs : List (NestedKey × Addr × Value)) (h : Heap) : Prop := ∃ o es ep, h.get? d = some o ∧ o.ExactDict ∧ o.data = .dict es ep ∧ es.toList = xs.map (entryOfKey (nestedKind P w))
/-- the dict at d holds kvs -/
def DN (P : Program) (w : World) (H : Hp) (d : Addr) (kvs : List (NestedKey × V)) : Prop :=
  kvs.length ≤ sizeLine ∧ (d == sysModules) = false ∧ ∃ xs, KN (KeyN H) kvs xs ∧ (xs.map (·.1)).Nodup ∧ H d = some (.ext (PhiN P w d xs))
section
variable {P : Program} {w : World} {H H' : Hp} {h : Heap} {d b : Addr} {k : NestedKey} {kvs : List (NestedKey × V)}
theorem KeyN.keeps (x : KeyN H k b) (ht : ∀ c ys, H c = some (.tup ys) → H' c = some (.tup ys)) : KeyN H' k b :=
  let ⟨s, j, o, t, e, e1, e2⟩ := x
  ⟨s, j, o, t, e, ht _ _ e1, ht _ _ e2⟩
/-- another heap with the same dict and the same tuples -/
theorem DN.keeps (x : DN P w H d kvs) (hd : ∀ o, H d = some o → H' d = some o) (ht : ∀ c ys, H c = some (.tup ys) → H' c = some (.tup ys)) : DN P w H' d kvs :=
  let ⟨z, nd, xs, r, n, e⟩ := x
  ⟨z, nd, xs, r.keeps fun _ _ q => q.keeps ht, n, hd _ e⟩
theorem KeyN.is (ok : HOk P w H h) (x : KeyN H k b) : (nestedKind P w).is h k b := by
  obtain ⟨s, j, o, t, rfl, e1, e2⟩ := x
  obtain ⟨_, its, r, ob, h1, h2, n, h3⟩ := (show ObjOk P w H h b (.tup [.ref t, .int o]) from ok b _ e1)
  obtain ⟨_, its', r', ob', h1', h2', n', h3'⟩ := (show ObjOk P w H h t (.tup [.int s, .int j]) from ok t _ e2)
  obtain ⟨u1, u2, rfl, q1, q2⟩ := vals2 r
  obtain ⟨v1, v2, rfl, q3, q4⟩ := vals2 r'
  obtain rfl : u1 = Value.ref t := q1
  obtain ⟨t2, rfl⟩ := q2
  obtain ⟨t3, rfl⟩ := q3
  obtain ⟨t4, rfl⟩ := q4
  have inner : NestedIs h (.tup [.num s, .num j]) (.ref t) := .tup h1' h2' h3' (.cons (.int s t3) (.cons (.int j t4) .nil))
  exact ⟨.tup h1 h2 h3 (.cons inner (.cons (.int o t2) .nil)), by simp [nk, NestedKey.depth, NestedKey.depthAll]⟩
theorem DN.dict (ok : HOk P w H h) (x : DN P w H d kvs) : ∃ xs, KN (KeyN H) kvs xs ∧ h.DictOfH (nestedKind P w) d xs := by
  obtain ⟨z, nd, xs, r, n, e⟩ := x
  obtain ⟨⟨o, es, ep, h1, h2, h3, h4⟩, _, _⟩ := (show ObjOk P w H h d (.ext (PhiN P w d xs)) from ok d _ e)
  refine ⟨xs, r, o, es, ep, h1, h2, h3, h4, fun q hq => ?_, n⟩
  have all : ∀ {l : List (NestedKey × V)} {m : List (NestedKey × Addr × Value)}, KN (KeyN H) l m → ∀ y ∈ m, (nestedKind P w).is h y.1 y.2.1 := by
    intro l m q
    induction q with
    | nil => intro y hy; cases hy
    | @cons p q ps qs hq t ih =>
      intro y hy
      rcases List.mem_cons.mp hy with rfl | hy
      · exact (hq.1 ▸ hq.2.1 : KeyN H _ _).is ok
      · exact ih y hy
  exact all r q hq
theorem phi_ok {H2 : Hp} {xs : List (NestedKey × Addr × Value)} (x : h.DictOfH (nestedKind P w) d xs) : ObjOk P w H2 h d (.ext (PhiN P w d xs)) := by
  obtain ⟨o, es, ep, h1, h2, h3, h4, _, _⟩ := x
  refine ⟨⟨o, es, ep, h1, h2, h3, h4⟩, ⟨o, h1⟩, fun ha hb ⟨o', es', ep', q1, q2⟩ kp => ⟨o', es', ep', kp _ q1, q2⟩⟩
end
section
variable {X : Cx} {pins : List (Addr × Obj)} {σ : L2.St} {H : Hp} {s : Shared} {d b : Addr} {k : NestedKey} {kvs : List (NestedKey × V)} {v : V} {r : Value} {E : Value → Shared → Prop}
theorem n_get {Q : Value → Shared → Prop} (hu : X.A.units + 64 < cLine) (I : Inv X pins σ H s) (x : DN X.prog X.w H d kvs) (hk : KeyN H k b) (hv : valV kvs k = some v) (fin : ∀ u s', Inv X pins σ H s' → RelV v u → Q u s') :
    wpAny (model X.prog X.w) X.A (getItem (.ref d) (.ref b)) Q E s := by
  obtain ⟨xs, rel, dd⟩ := x.dict I.hok
  obtain ⟨u, hw, ru⟩ := RelO.some_of (v := v) (o := (atKey xs k).map (·.2)) (by rw [← hv]; exact rel.val k)
  obtain ⟨p, hp, rfl⟩ := Option.map_eq_some_iff.mp hw
  exact wpAny_getItem_heap (knd := nestedKind X.prog X.w) (show X.A.units + 1 + 8 < cLine by omega) (hk.is I.hok) dd hp (fin _ _ (I.tok _) ru)
theorem n_get2 {Q : Value → Shared → Prop} (hu : X.A.units + 64 < cLine) (I : Inv X pins σ H s) (x : DN X.prog X.w H d kvs) (hk : KeyN H k b) (rv : RelV v r) (fin : ∀ u s', Inv X pins σ H s' → RelV ((valV kvs k).getD v) u → Q u s') :
    wpAny (model X.prog X.w) X.A (call (.builtin "dict.get") [.ref d, .ref b, r]) Q E s := by
  obtain ⟨xs, rel, dd⟩ := x.dict I.hok
  refine call_meetsIn PySem.F.slot_dict_get dd.typeIs PySem.F.entry_dict_get (PySem.F.args_dict_get_3 _ _ _) (meetsH_dict_get_default (nestedKind X.prog X.w) d b x.2.1 r)
    ⟨(show X.A.units + 1 + 8 < cLine by omega), k, xs, hk.is I.hok, dd, fin _ _ (I.tok _) ((rel.val k).getD rv)⟩
theorem n_set {Q : Unit → Shared → Prop} (hu : X.A.units + 64 < cLine) (I : Inv X pins σ H s) (x : DN X.prog X.w H d kvs) (hk : KeyN H k b) (hz : kvs.length < sizeLine) (rv : RelV v r)
    (fin : ∀ o s', Inv X pins σ (upd H d o) s' → DN X.prog X.w (upd H d o) d (putK kvs k v) → Q () s') : wpAny (model X.prog X.w) X.A (setItem (.ref d) (.ref b) r) Q E s := by
  obtain ⟨xs, rel, dd⟩ := x.dict I.hok
  obtain ⟨_, nd, _, _, _, e⟩ := x
  have zx : xs.length ≤ sizeLine := by rw [← Paired.length rel]; omega
  have zk : (putK kvs k v).length ≤ sizeLine := by have := length_putK kvs k v; omega
  refine wpAny_setItem_heap (knd := nestedKind X.prog X.w) (hsz := zx) (show X.A.units + 1 + 8 < cLine by omega) (hk.is I.hok) dd fun h' dd' hs => ?_
  have he : ∃ q, h'.get? d = some q := let ⟨q, _, _, hq, _⟩ := dd'; ⟨q, hq⟩
  have tups : ∀ c ys, H c = some (.tup ys) → upd H d (.ext (PhiN X.prog X.w d (storedH xs k b r))) c = some (.tup ys) := fun c ys ec => by
    rw [upd_ne (ne_of ec e fun z => nomatch z)]
    exact ec
  refine fin (.ext (PhiN X.prog X.w d (storedH xs k b r))) _ (d_write I (by rw [e]; trivial) hs he (phi_ok dd')) ⟨zk, nd, _, (rel.put hk rv).keeps fun _ _ q => q.keeps tups, ?_, upd_same⟩
  obtain ⟨_, _, _, _, _, _, _, _, n⟩ := dd'
  exact n
end
/-! ### as rules -/
def tNNew (P : Program) (w : World) : TE := fun _ H Q => ∀ p o, H p = none → DN P w (upd H p o) p [] → Q (.ref p) (upd H p o)
def tNGet (P : Program) (w : World) (td ty : TE) : TE := fun σ H Q => td σ H fun x H1 => ty σ H1 fun y H2 => ∃ d b kvs k v, x = .ref d ∧ y = .ref b ∧ DN P w H2 d kvs ∧ KeyN H2 k b ∧ valV kvs k = some v ∧ Q v H2
def tNGet2 (P : Program) (w : World) (td ty tx : TE) : TE := fun σ H Q => td σ H fun x H1 => ∃ d kvs0, x = .ref d ∧ DN P w H1 d kvs0 ∧ ty σ H1 fun y H2 => tx σ H2 fun z H3 => ∃ b kvs k, y = .ref b ∧ DN P w H3 d kvs ∧ KeyN H3 k b ∧ Q ((valV kvs k).getD z) H3
def sNPut (P : Program) (w : World) (td ty tv : TE) : TS := fun D σ H => tv σ H fun v H1 => td σ H1 fun x H2 => ty σ H2 fun y H3 => ∃ d b kvs k, x = .ref d ∧ y = .ref b ∧ DN P w H3 d kvs ∧ KeyN H3 k b ∧ kvs.length < sizeLine ∧
  ∀ o, DN P w (upd H3 d o) d (putK kvs k v) → D.nx σ (upd H3 d o)
section
variable {X : Cx} {o i e f value : Expr} {pos pos' apos cpos : Pos} {td ty tx tv : TE}
theorem pe_dnewN : PE X (.Dict [] [] pos) (tNNew X.prog X.w) := ⟨fun pins s σ H Q I h => by
  have fr := I.hok.fresh (Nat.le_refl s.heap.objs.size)
  have dd : (s.heap.push { cls := .type "dict", data := .dict #[] }).DictOfH (nestedKind X.prog X.w) s.heap.objs.size [] := Heap.DictOfH.new s.heap
  have I1 := I.laid (a := s.heap.objs.size) (o := .ext (PhiN X.prog X.w s.heap.objs.size [])) (h' := s.heap.push { cls := .type "dict", data := .dict #[] }) (t' := s.toks) (fun _ _ q => Heap.get?_push_of_some _ q) (Nat.le_refl _) (phi_ok dd)
  exact wpAny_Dict_empty ⟨.ref s.heap.objs.size, _, I1, rfl, h _ _ fr ⟨Nat.zero_le _, beq_eq_false_iff_ne.mpr (Ne.symm (Nat.ne_of_lt I.big)), [], .nil, List.nodup_nil, upd_same⟩⟩⟩
theorem pe_dgetN (hu : X.A.units + 64 < cLine) (ho : PE X o td) (hi : PE X i ty) (hs : NoSl i) : PE X (.Subscript o i pos) (tNGet X.prog X.w td ty) := by
  refine ⟨fun pins s σ H Q I h => subD_of PySem.F.slot_dict_getitem.lookup hs (thn (ho.run pins s σ H _ I h) fun u s1 ⟨x, H1, I1, rx, q1⟩ => thn (hi.run pins s1 σ H1 _ I1 q1) fun u2 s2 ⟨y, H2, I2, ry, d, b, kvs, k, v, ex, ey, dn, kn, hv, fin⟩ => ?_)⟩
  subst ex ey
  obtain rfl : u = Value.ref d := rx
  obtain rfl : u2 = Value.ref b := ry
  obtain ⟨xs, _, dd⟩ := dn.dict I2.hok
  exact ⟨dd.typeIs, n_get hu I2 dn kn hv fun u3 s3 I3 r3 => ⟨v, H2, I3, r3, fin⟩⟩
theorem ps_dputN (hu : X.A.units + 64 < cLine) (ho : PE X o td) (hi : PE X i ty) (hv : PE X value tv) (hs : swapsWith value (some (.Subscript o i pos')) pos.line X.env = pure false) :
    PS X (.Assign [.Subscript o i pos'] value pos) (sNPut X.prog X.w td ty tv) := by
  refine ⟨fun pins s σ H D I h => wpAny_Assign_Subscript (thn (hv.run pins s σ H _ I h) fun r s1 ⟨v, H1, I1, rv, q1⟩ => thn (ho.run pins s1 σ H1 _ I1 q1) fun u s2 ⟨x, H2, I2, rx, q2⟩ =>
    thn (hi.run pins s2 σ H2 _ I2 q2) fun u2 s3 ⟨y, H3, I3, ry, d, b, kvs, k, ex, ey, dn, kn, hz, fin⟩ => ?_) hs⟩
  subst ex ey
  obtain rfl : u = Value.ref d := rx
  obtain rfl : u2 = Value.ref b := ry
  exact n_set hu I3 dn kn hz rv fun o s4 I4 dn' => ⟨σ, _, I4, fin o dn'⟩
theorem pe_dget2N (hu : X.A.units + 64 < cLine) (ho : PE X o td) (he : PE X e ty) (hf : PE X f tx) (m : M2 X o "get" apos e f cpos) : PE X (.Call (.Attribute o "get" apos) [e, f] [] cpos) (tNGet2 X.prog X.w td ty tx) := by
  refine ⟨fun pins s σ H Q I h => wpAny_Call_method m.base m.few m.line PySem.F.plainAttrs_dict PySem.F.slot_dict_get PySem.F.type_dict_get (thn (ho.run pins s σ H _ I h) fun u s1 ⟨x, H1, I1, rx, d, kvs0, ex, dn0, q1⟩ => ?_)⟩
  subst ex
  obtain rfl : u = Value.ref d := rx
  obtain ⟨xs, _, dd⟩ := dn0.dict I1.hok
  refine ⟨dd.typeIs, fun c q => ?_, ?_⟩
  · cases q
    obtain ⟨ob, _, _, h1, h2, _⟩ := dd
    exact ⟨ob, h1, h2.2.1⟩
  · rw [m.trees]
    refine Calls.callWith_builtin rfl (Calls.evalArgs_plain (Calls.spliced_cons (thn (he.run pins s1 σ H1 _ I1 q1) fun u2 s2 ⟨y, H2, I2, ry, q2⟩ =>
      Calls.spliced_cons (thn (hf.run pins s2 σ H2 _ I2 q2) fun u3 s3 ⟨z, H3, I3, rz, b, kvs, k, ey, dn, kn, fin⟩ => Calls.spliced_nil ?_))))
    subst ey
    obtain rfl : u2 = Value.ref b := ry
    exact n_get2 hu I3 dn kn rz fun u4 s4 I4 r4 => ⟨_, H3, I4, r4, fin⟩
end
/-! ### name = {k: v for ..} (keys ints), the name a local: the statement's other form -/
theorem swaps_dc {kx vx : Expr} {gs : List Comprehension} {scope : Scope} {pos py : Pos} {y : Str} {l : Nat} {env : Env} (hk : env.scope.kind = .function) (hy : env.scope.names.lookup y = some .local) (hl : (py.line == pos.line) = true)
    (ha : (scope.names.any fun (n, k) => n == y && (k == .local || k == .cell)) = false) : swapsWith (.DictComp kx vx gs scope pos) (some (.Name y py)) l env = pure true := by
  have k1 : env.kindOf y = some .local := hy
  have k2 : env.blockKind = .function := by unfold Env.blockKind; rw [hk]; rfl
  unfold swapsWith
  simp only [k1, k2, ha, hl, Expr.pos]
  rfl
theorem ps_setDc {X : Cx} {i : Nat} {y : Str} {py : Pos} {kx vx tg iter : Expr} {ifs : List Expr} {scope : Scope} {own : List (Str × Nat)} {pos spos : Pos} {wi : TI} {g : TG} {tt : TT} {tk tv : TE} (hc : X.calm = true) (hN : X.N.Nodup) (hy : X.N[i]? = some y) (hyl : X.env.scope.names.lookup y = some .local)
    (hsw : swapsWith (.DictComp kx vx [⟨tg, iter, ifs, 0⟩] scope pos) (some (.Name y py)) spos.line X.env = pure true) (hi : PI X tg iter wi) (ok : BlkOk X.N X.env.scope scope own)
    (hg : ∀ (s : Shared) (H : Hp) (C : Addr) (cl : List (Str × Addr)) (fp : List Addr), PG (X.blk s H scope (compEnvC scope cl C X.env) fp) tg g) (ht : ∀ (s : Shared) (H : Hp) (C : Addr) (cl : List (Str × Addr)) (fp : List Addr), PTs (X.blk s H scope (compEnvC scope cl C X.env) fp) ifs tt)
    (hk : ∀ (s : Shared) (H : Hp) (C : Addr) (cl : List (Str × Addr)) (fp : List Addr), PE (X.blk s H scope (compEnvC scope cl C X.env) fp) kx tk)
    (he : ∀ (s : Shared) (H : Hp) (C : Addr) (cl : List (Str × Addr)) (fp : List Addr), PE (X.blk s H scope (compEnvC scope cl C X.env) fp) vx tv) (hs : ∀ x, foldedSetIterable iter X.env x = pure x := by intro _; rfl) :
    PS X (.Assign [.Name y py] (.DictComp kx vx [⟨tg, iter, ifs, 0⟩] scope pos) spos) (tAsg (tDc wi g tt tk tv (own.map (·.2))) (gName i)) := by
  refine ⟨fun pins s σ H D I wish => ?_⟩
  rw [exec_Assign_Name_used _ _ _ _ hsw]
  refine wpAny_bind (wpAny_standAt (wpAny_bind ?_))
  show wpAny _ X.A (do let _ ← comprehension (.DictComp kx vx [⟨tg, iter, ifs, 0⟩] scope pos) scope X.env (firstIterPos [⟨tg, iter, ifs, 0⟩] pos) newDict false (eval iter X.env) (some (assign (.Name y py) X.env))) _ _ s
  have wish2 : tDc wi g tt tk tv (own.map (·.2)) σ H (fun x H1 => gName i x σ H1 D.nx) := wish
  refine wpAny_bind (thn (dc_core (Qf := fun _ s' => SP X pins D .next s') hc hN I hi ok hg ht hk he hs wish2 fun L C s' m H' I' q hn ⟨f0, f1, f2, f3, f4, f5⟩ => ?_) fun _ s' hq => wpAny_pure (wpAny_pure hq))
  show wpAny _ _ (assign (.Name y py) X.env (.ref L)) _ _ _
  refine wpAny_assign_Name (store_ok2 (v := V.ref L) I' hN hy (.inl hyl) rfl (fun s2 I2 ⟨a, sb, ha⟩ => ?_) (.inr hyl))
  have apart : C ≠ a := by
    rcases ha with z | z
    · exact z ▸ f1
    · exact Ne.symm (f4 y a z)
  exact ⟨m, hn.sameBut sb apart, fun h3 sb3 => ⟨_, H', I2.turned (t' := s2.toks) (fun b o hb e => (sb3.2 b hb).trans e) f0 f1 f3 f4 f5, q⟩⟩
/-! ### a tuple times an int from 1 on -/
theorem tuple_mul1 (l : Addr) (items : Array Value) (n : Nat) (dd : Option Addr) (sl : Array (Option Value)) (u : Tok) :
    Meets (Builtin.«tuple.__mul__» ⟨[.ref l, .int 1 u], []⟩) (fun _ R s => s.heap.get? l = some { cls := .type "tuple", dict := dd, data := .seq items n, slots := sl } ∧ R (.ok (.ret (Value.ref l))) s) :=
  .of_wp fun prog w A R s ⟨hl, fin⟩ => by
    obtain ⟨hp, g, d, tk, os⟩ := s
    have f1 := AutoSeq1.idx_int
    have c1 : (items.isEmpty || (1 : Int) == 1) = true := by simp
    wp_walk using wpAny_loadPart' hl
    exact ⟨_, rfl, fin⟩
def rRepA (K : PySem.W.Frag) : R2 := fun x y H Q => ∃ l k xs, x = .ref l ∧ y = .int k ∧ SqT K H l xs ∧ xs ≠ [] ∧ 1 ≤ k ∧ k ≤ 1000 ∧ xs.length ≤ 1000 ∧ (k = 1 → Q (.ref l) H) ∧ (2 ≤ k → ∀ p, H p = none → Q (.ref p) (upd H p (.tup (List.replicate k.toNat xs).flatten)))
theorem op_repA {X : Cx} : OpR X (binaryOp .Mult) (rRepA X.K) := by
  intro pins s σ H x y v u Q I rx ry ⟨l, k, xs, ex, ey, hT, hne, h1, h2, hz, q1, q2⟩
  by_cases k1 : k = 1
  · subst ex ey k1
    obtain rfl : v = Value.ref l := rx
    obtain ⟨t, rfl⟩ := ry
    obtain ⟨its, r, ⟨⟨cls, dd, data, sl⟩, ho, hc, n, hd⟩, hs⟩ := I.tuple hT
    simp only at hc hd
    subst hc hd
    refine wpAny_binaryOp_repeat_ref (T := "tuple") (U := "int") (by decide) ⟨_, ho, rfl⟩ (fun s' => typeIs_int s' 1 t) noFill_tuple_mul F.fills_int_mul F.slot_int_rmul repeat_tuple F.slot_int_index.lookup
      (call_meets F.slot_int_rmul (typeIs_int s 1 t) F.entry_int_rmul (F.args_int_rmul_2 _ _) (int_rmul_tuple 1 t l its.toArray n dd sl)
        ⟨ho, rfl, ⟨_, ho, rfl⟩, call_meets F.slot_tuple_mul ⟨_, ho, rfl⟩ F.entry_tuple_mul (F.args_tuple_mul_2 _ _) (tuple_mul1 l its.toArray n dd sl t) ⟨ho, ?_⟩⟩)
    exact ⟨.ref l, H, I, rfl, q1 rfl⟩
  · exact op_repT pins s σ H x y v u Q I rx ry ⟨l, k, xs, ex, ey, hT, hne, by omega, h2, hz, q2 (by omega)⟩
end K24

/-! The text by its places, what the top has written (Txt), words for heaps. -/
namespace K24
open PySem PySem.Spec PyProof.Rows L2
def topS (i : Nat) : Stmt := PySem.Challenge.pw_aheadcells_k24_whole_surely_by_all_small.main.body.getD i (.Pass ⟨0, 0, 0, 0⟩)
abbrev s_is_integer : Stmt := topS 7
theorem sc_is_integer : FnScope ["thing"] ["thing"] (defScope s_is_integer) := ⟨rfl, rfl, rfl, by decide +kernel, rfl, by decide +kernel, by decide +kernel⟩
abbrev s_is_within : Stmt := topS 8
theorem sc_is_within : FnScope ["thing", "least", "most"] ["thing", "least", "most"] (defScope s_is_within) := ⟨rfl, rfl, rfl, by decide +kernel, rfl, by decide +kernel, by decide +kernel⟩
abbrev s_is_from : Stmt := topS 9
theorem sc_is_from : FnScope ["thing", "least"] ["thing", "least"] (defScope s_is_from) := ⟨rfl, rfl, rfl, by decide +kernel, rfl, by decide +kernel, by decide +kernel⟩
abbrev s_is_pair : Stmt := topS 10
theorem sc_is_pair : FnScope ["thing"] ["thing"] (defScope s_is_pair) := ⟨rfl, rfl, rfl, by decide +kernel, rfl, by decide +kernel, by decide +kernel⟩
abbrev s_is_triple : Stmt := topS 15
theorem sc_is_triple : FnScope ["thing", "steps"] ["thing", "steps"] (defScope s_is_triple) := ⟨rfl, rfl, rfl, by decide +kernel, rfl, by decide +kernel, by decide +kernel⟩
abbrev s_are_triples : Stmt := topS 16
theorem sc_are_triples : FnScope ["thing", "steps", "link"] ["thing", "steps"] (defScope s_are_triples) := ⟨rfl, rfl, rfl, by decide +kernel, rfl, by decide +kernel, by decide +kernel⟩
abbrev s_links_of : Stmt := topS 17
theorem sc_links_of : FnScope ["needs", "befores", "found", "index", "one", "other", "rounds"] ["needs", "befores"] (defScope s_links_of) := ⟨rfl, rfl, rfl, by decide +kernel, rfl, by decide +kernel, by decide +kernel⟩
abbrev s_idle_ring : Stmt := topS 19
theorem sc_idle_ring : FnScope ["steps", "links", "left", "last", "number", "one", "other", "rounds", "word", "index", "at", "turn", "step"] ["steps", "links"] (defScope s_idle_ring) := ⟨rfl, rfl, rfl, by decide +kernel, rfl, by decide +kernel, by decide +kernel⟩
abbrev s_init : Stmt := inClass (topS 20) 0
theorem sc_init : FnScope ["self", "steps", "needs", "befores"] ["self", "steps", "needs", "befores"] (defScope s_init) := ⟨rfl, rfl, rfl, by decide +kernel, rfl, by decide +kernel, by decide +kernel⟩
abbrev s_keep : Stmt := inClass (topS 20) 1
theorem sc_keep : FnScope ["self", "steps", "needs", "befores", "links", "ring", "rows", "one", "other", "rounds", "step", "row"] ["self", "steps", "needs", "befores"] (defScope s_keep) := ⟨rfl, rfl, rfl, by decide +kernel, rfl, by decide +kernel, by decide +kernel⟩
abbrev s_is_step : Stmt := topS 21
theorem sc_is_step : FnScope ["program", "thing"] ["program", "thing"] (defScope s_is_step) := ⟨rfl, rfl, rfl, by decide +kernel, rfl, by decide +kernel, by decide +kernel⟩
abbrev s_check_step : Stmt := topS 22
theorem sc_check_step : FnScope ["program", "thing"] ["program", "thing"] (defScope s_check_step) := ⟨rfl, rfl, rfl, by decide +kernel, rfl, by decide +kernel, by decide +kernel⟩
abbrev s_is_doing : Stmt := topS 23
theorem sc_is_doing : FnScope ["program", "thing"] ["program", "thing"] (defScope s_is_doing) := ⟨rfl, rfl, rfl, by decide +kernel, rfl, by decide +kernel, by decide +kernel⟩
abbrev s_check_doing : Stmt := topS 24
theorem sc_check_doing : FnScope ["program", "thing"] ["program", "thing"] (defScope s_check_doing) := ⟨rfl, rfl, rfl, by decide +kernel, rfl, by decide +kernel, by decide +kernel⟩
abbrev s_rounds_table : Stmt := topS 26
theorem sc_rounds_table : FnScope ["program", "far", "one", "other", "rounds", "word", "index", "middle", "row"] ["program"] (defScope s_rounds_table) := ⟨rfl, rfl, rfl, by decide +kernel, rfl, by decide +kernel, by decide +kernel⟩
abbrev s_lowered : Stmt := topS 27
theorem sc_lowered : FnScope ["row", "middle", "ahead", "other", "rounds"] ["row", "middle", "ahead"] (defScope s_lowered) := ⟨rfl, rfl, rfl, by decide +kernel, rfl, by decide +kernel, by decide +kernel⟩
abbrev s_least_rounds : Stmt := topS 28
theorem sc_least_rounds : FnScope ["program", "one", "other"] ["program", "one", "other"] (defScope s_least_rounds) := ⟨rfl, rfl, rfl, by decide +kernel, rfl, by decide +kernel, by decide +kernel⟩
abbrev s_is_behind : Stmt := topS 29
theorem sc_is_behind : FnScope ["table", "first", "second", "least"] ["table", "first", "second"] (defScope s_is_behind) := ⟨rfl, rfl, rfl, by decide +kernel, rfl, by decide +kernel, by decide +kernel⟩
abbrev s_surely : Stmt := topS 30
theorem sc_surely : FnScope ["program", "first", "second"] ["program", "first", "second"] (defScope s_surely) := ⟨rfl, rfl, rfl, by decide +kernel, rfl, by decide +kernel, by decide +kernel⟩
abbrev s_law_pool : Stmt := topS 32
theorem sc_law_pool : FnScope ["_law_script", "_law_seed", "_law_cell"] ["_law_script"] (defScope s_law_pool) := ⟨rfl, rfl, rfl, by decide +kernel, rfl, by decide +kernel, by decide +kernel⟩
abbrev s_law_draw : Stmt := topS 33
theorem sc_law_draw : FnScope ["_law_pool_here", "_law_many", "_law_cells", "_law_digit", "_law_mixed_here"] ["_law_pool_here", "_law_many"] (defScope s_law_draw) := ⟨rfl, rfl, rfl, by decide +kernel, rfl, by decide +kernel, by decide +kernel⟩
abbrev s_law_mixed : Stmt := topS 34
theorem sc_law_mixed : FnScope ["_law_pool_here", "_law_things", "_law_left", "_law_made", "_law_k"] ["_law_pool_here", "_law_things"] (defScope s_law_mixed) := ⟨rfl, rfl, rfl, by decide +kernel, rfl, by decide +kernel, by decide +kernel⟩
abbrev s_law_some_links : Stmt := topS 35
theorem sc_law_some_links : FnScope ["_law_pool_here", "_law_places", "_law_many", "_law_far", "_law_size", "_law_found", "_law_k", "_law_one", "_law_other", "_law_rounds"] ["_law_pool_here", "_law_places", "_law_many", "_law_far"] (defScope s_law_some_links) := ⟨rfl, rfl, rfl, by decide +kernel, rfl, by decide +kernel, by decide +kernel⟩
abbrev s_law_ring_links : Stmt := topS 36
theorem sc_law_ring_links : FnScope ["_law_pool_here", "_law_places", "_law_row", "_law_found", "_law_k"] ["_law_pool_here", "_law_places"] (defScope s_law_ring_links) := ⟨rfl, rfl, rfl, by decide +kernel, rfl, by decide +kernel, by decide +kernel⟩
abbrev s_law_spec : Stmt := topS 37
theorem sc_law_spec : FnScope ["_law_pool_here", "_law_most", "_law_size", "_law_places", "_law_kind", "_law_far", "_law_needs", "_law_befores", "_law_one", "_law_other", "_law_rounds", "_law_back"] ["_law_pool_here", "_law_most"] (defScope s_law_spec) := ⟨rfl, rfl, rfl, by decide +kernel, rfl, by decide +kernel, by decide +kernel⟩
abbrev s_law_program : Stmt := topS 38
theorem sc_law_program : FnScope ["_law_spec_here"] ["_law_spec_here"] (defScope s_law_program) := ⟨rfl, rfl, rfl, by decide +kernel, rfl, by decide +kernel, by decide +kernel⟩
abbrev s_law_links : Stmt := topS 39
theorem sc_law_links : FnScope ["_law_spec_here"] ["_law_spec_here"] (defScope s_law_links) := ⟨rfl, rfl, rfl, by decide +kernel, rfl, by decide +kernel, by decide +kernel⟩
abbrev s_law_table : Stmt := topS 40
theorem sc_law_table : FnScope ["_law_spec_here", "_law_table_here", "_law_step", "_law_turn", "_law_one", "_law_other", "_law_rounds", "_law_begin", "_law_least"] ["_law_spec_here"] (defScope s_law_table) := ⟨rfl, rfl, rfl, by decide +kernel, rfl, by decide +kernel, by decide +kernel⟩
abbrev s_law_free : Stmt := topS 41
theorem sc_law_free : FnScope ["_law_spec_here", "_law_counts", "_law_step", "_law_one", "_law_other", "_law_rounds"] ["_law_spec_here", "_law_counts", "_law_step"] (defScope s_law_free) := ⟨rfl, rfl, rfl, by decide +kernel, rfl, by decide +kernel, by decide +kernel⟩
abbrev s_law_flood : Stmt := topS 42
theorem sc_law_flood : FnScope ["_law_spec_here", "_law_bound", "_law_begin", "_law_found", "_law_known", "_law_at", "_law_step", "_law_later"] ["_law_spec_here", "_law_bound"] (defScope s_law_flood) := ⟨rfl, rfl, rfl, by decide +kernel, rfl, by decide +kernel, by decide +kernel⟩
abbrev s_law_least_counts : Stmt := topS 43
theorem sc_law_least_counts : FnScope ["_law_spec_here", "_law_states", "_law_bound", "_law_least", "_law_state", "_law_step", "_law_other", "_law_key"] ["_law_spec_here", "_law_states", "_law_bound"] (defScope s_law_least_counts) := ⟨rfl, rfl, rfl, by decide +kernel, rfl, by decide +kernel, by decide +kernel⟩
abbrev s_law : Stmt := topS 44
theorem sc_law : FnScope ["_law_script", "_law_pool_here", "_law_turn", "_law_spec_here", "_law_program_here", "_law_bound", "_law_states", "_law_least", "_law_table_here", "_law_one", "_law_other", "_law_rounds", "_law_i", "_law_j", "_law_due", "_law_told"] ["_law_script"] (defScope s_law) := ⟨rfl, rfl, rfl, by decide +kernel, rfl, by decide +kernel, by decide +kernel⟩
structure Txt (K : PySem.W.Frag) (mg : Str → Option Value) where
  f_is_integer : Addr
  d_is_integer : FuncData
  F_is_integer : Fun K "is_integer" "is_integer" s_is_integer f_is_integer d_is_integer
  m_is_integer : mg "is_integer" = some (.ref f_is_integer)
  f_is_within : Addr
  d_is_within : FuncData
  F_is_within : Fun K "is_within" "is_within" s_is_within f_is_within d_is_within
  m_is_within : mg "is_within" = some (.ref f_is_within)
  f_is_from : Addr
  d_is_from : FuncData
  F_is_from : Fun K "is_from" "is_from" s_is_from f_is_from d_is_from
  m_is_from : mg "is_from" = some (.ref f_is_from)
  f_is_pair : Addr
  d_is_pair : FuncData
  F_is_pair : Fun K "is_pair" "is_pair" s_is_pair f_is_pair d_is_pair
  m_is_pair : mg "is_pair" = some (.ref f_is_pair)
  f_is_triple : Addr
  d_is_triple : FuncData
  F_is_triple : Fun K "is_triple" "is_triple" s_is_triple f_is_triple d_is_triple
  m_is_triple : mg "is_triple" = some (.ref f_is_triple)
  f_are_triples : Addr
  d_are_triples : FuncData
  F_are_triples : Fun K "are_triples" "are_triples" s_are_triples f_are_triples d_are_triples
  m_are_triples : mg "are_triples" = some (.ref f_are_triples)
  f_links_of : Addr
  d_links_of : FuncData
  F_links_of : Fun K "links_of" "links_of" s_links_of f_links_of d_links_of
  m_links_of : mg "links_of" = some (.ref f_links_of)
  f_idle_ring : Addr
  d_idle_ring : FuncData
  F_idle_ring : Fun K "idle_ring" "idle_ring" s_idle_ring f_idle_ring d_idle_ring
  m_idle_ring : mg "idle_ring" = some (.ref f_idle_ring)
  f_init : Addr
  d_init : FuncData
  F_init : Fun K "__init__" "Program.__init__" s_init f_init d_init
  f_keep : Addr
  d_keep : FuncData
  F_keep : Fun K "keep" "Program.keep" s_keep f_keep d_keep
  f_is_step : Addr
  d_is_step : FuncData
  F_is_step : Fun K "is_step" "is_step" s_is_step f_is_step d_is_step
  m_is_step : mg "is_step" = some (.ref f_is_step)
  f_check_step : Addr
  d_check_step : FuncData
  F_check_step : Fun K "check_step" "check_step" s_check_step f_check_step d_check_step
  m_check_step : mg "check_step" = some (.ref f_check_step)
  f_is_doing : Addr
  d_is_doing : FuncData
  F_is_doing : Fun K "is_doing" "is_doing" s_is_doing f_is_doing d_is_doing
  m_is_doing : mg "is_doing" = some (.ref f_is_doing)
  f_check_doing : Addr
  d_check_doing : FuncData
  F_check_doing : Fun K "check_doing" "check_doing" s_check_doing f_check_doing d_check_doing
  m_check_doing : mg "check_doing" = some (.ref f_check_doing)
  f_rounds_table : Addr
  d_rounds_table : FuncData
  F_rounds_table : Fun K "rounds_table" "rounds_table" s_rounds_table f_rounds_table d_rounds_table
  m_rounds_table : mg "rounds_table" = some (.ref f_rounds_table)
  f_lowered : Addr
  d_lowered : FuncData
  F_lowered : Fun K "lowered" "lowered" s_lowered f_lowered d_lowered
  m_lowered : mg "lowered" = some (.ref f_lowered)
  f_least_rounds : Addr
  d_least_rounds : FuncData
  F_least_rounds : Fun K "least_rounds" "least_rounds" s_least_rounds f_least_rounds d_least_rounds
  m_least_rounds : mg "least_rounds" = some (.ref f_least_rounds)
  f_is_behind : Addr
  d_is_behind : FuncData
  F_is_behind : Fun K "is_behind" "is_behind" s_is_behind f_is_behind d_is_behind
  m_is_behind : mg "is_behind" = some (.ref f_is_behind)
  f_surely : Addr
  d_surely : FuncData
  F_surely : Fun K "surely" "surely" s_surely f_surely d_surely
  m_surely : mg "surely" = some (.ref f_surely)
  f_law_pool : Addr
  d_law_pool : FuncData
  F_law_pool : Fun K "_law_pool" "_law_pool" s_law_pool f_law_pool d_law_pool
  m_law_pool : mg "_law_pool" = some (.ref f_law_pool)
  f_law_draw : Addr
  d_law_draw : FuncData
  F_law_draw : Fun K "_law_draw" "_law_draw" s_law_draw f_law_draw d_law_draw
  m_law_draw : mg "_law_draw" = some (.ref f_law_draw)
  f_law_mixed : Addr
  d_law_mixed : FuncData
  F_law_mixed : Fun K "_law_mixed" "_law_mixed" s_law_mixed f_law_mixed d_law_mixed
  m_law_mixed : mg "_law_mixed" = some (.ref f_law_mixed)
  f_law_some_links : Addr
  d_law_some_links : FuncData
  F_law_some_links : Fun K "_law_some_links" "_law_some_links" s_law_some_links f_law_some_links d_law_some_links
  m_law_some_links : mg "_law_some_links" = some (.ref f_law_some_links)
  f_law_ring_links : Addr
  d_law_ring_links : FuncData
  F_law_ring_links : Fun K "_law_ring_links" "_law_ring_links" s_law_ring_links f_law_ring_links d_law_ring_links
  m_law_ring_links : mg "_law_ring_links" = some (.ref f_law_ring_links)
  f_law_spec : Addr
  d_law_spec : FuncData
  F_law_spec : Fun K "_law_spec" "_law_spec" s_law_spec f_law_spec d_law_spec
  m_law_spec : mg "_law_spec" = some (.ref f_law_spec)
  f_law_program : Addr
  d_law_program : FuncData
  F_law_program : Fun K "_law_program" "_law_program" s_law_program f_law_program d_law_program
  m_law_program : mg "_law_program" = some (.ref f_law_program)
  f_law_links : Addr
  d_law_links : FuncData
  F_law_links : Fun K "_law_links" "_law_links" s_law_links f_law_links d_law_links
  m_law_links : mg "_law_links" = some (.ref f_law_links)
  f_law_table : Addr
  d_law_table : FuncData
  F_law_table : Fun K "_law_table" "_law_table" s_law_table f_law_table d_law_table
  m_law_table : mg "_law_table" = some (.ref f_law_table)
  f_law_free : Addr
  d_law_free : FuncData
  F_law_free : Fun K "_law_free" "_law_free" s_law_free f_law_free d_law_free
  m_law_free : mg "_law_free" = some (.ref f_law_free)
  f_law_flood : Addr
  d_law_flood : FuncData
  F_law_flood : Fun K "_law_flood" "_law_flood" s_law_flood f_law_flood d_law_flood
  m_law_flood : mg "_law_flood" = some (.ref f_law_flood)
  f_law_least_counts : Addr
  d_law_least_counts : FuncData
  F_law_least_counts : Fun K "_law_least_counts" "_law_least_counts" s_law_least_counts f_law_least_counts d_law_least_counts
  m_law_least_counts : mg "_law_least_counts" = some (.ref f_law_least_counts)
  f_law : Addr
  d_law : FuncData
  F_law : Fun K "law" "law" s_law f_law d_law
  m_law : mg "law" = some (.ref f_law)
  C : Addr
  cl : Cls K C
  m_Program : mg "Program" = some (.ref C)
  mk_Program : Mk K C f_init
  me_keep : Meth K C "keep" f_keep
  a_steps : NoAttr K C "steps"
  a_needs : NoAttr K C "needs"
  a_befores : NoAttr K C "befores"
  a_kept_links : NoAttr K C "kept_links"
  a_kept_readers : NoAttr K C "kept_readers"
  a_kept_makers : NoAttr K C "kept_makers"
  t_MOST_STEPS : Tok
  m_MOST_STEPS : mg "MOST_STEPS" = some (.int 12 t_MOST_STEPS)
  t_MOST_LINKS : Tok
  m_MOST_LINKS : mg "MOST_LINKS" = some (.int 40 t_MOST_LINKS)
  t_MOST_ROUNDS : Tok
  m_MOST_ROUNDS : mg "MOST_ROUNDS" = some (.int 6 t_MOST_ROUNDS)
  n_len : mg "len" = none
  n_sum : mg "sum" = none
  n_all : mg "all" = none
  n_abs : mg "abs" = none
  n_max : mg "max" = none
  n_min : mg "min" = none
  n_sorted : mg "sorted" = none
  n_isinstance : mg "isinstance" = none
  n_int : mg "int" = none
  n_bool : mg "bool" = none
  n_list : mg "list" = none
  n_tuple : mg "tuple" = none
  n_range : mg "range" = none
  n_enumerate : mg "enumerate" = none
theorem b_is_integer {K : PySem.W.Frag} {mg : Str → Option Value} (T : Txt K mg) : Binds K T.d_is_integer ["thing"] [] := T.F_is_integer.binds fun _ _ _ _ _ _ us hl => match us, hl with | [_], _ => rfl
theorem b_is_within {K : PySem.W.Frag} {mg : Str → Option Value} (T : Txt K mg) : Binds K T.d_is_within ["thing", "least", "most"] [] := T.F_is_within.binds fun _ _ _ _ _ _ us hl => match us, hl with | [_, _, _], _ => rfl
theorem b_is_from {K : PySem.W.Frag} {mg : Str → Option Value} (T : Txt K mg) : Binds K T.d_is_from ["thing", "least"] [] := T.F_is_from.binds fun _ _ _ _ _ _ us hl => match us, hl with | [_, _], _ => rfl
theorem b_is_pair {K : PySem.W.Frag} {mg : Str → Option Value} (T : Txt K mg) : Binds K T.d_is_pair ["thing"] [] := T.F_is_pair.binds fun _ _ _ _ _ _ us hl => match us, hl with | [_], _ => rfl
theorem b_is_triple {K : PySem.W.Frag} {mg : Str → Option Value} (T : Txt K mg) : Binds K T.d_is_triple ["thing", "steps"] [] := T.F_is_triple.binds fun _ _ _ _ _ _ us hl => match us, hl with | [_, _], _ => rfl
theorem b_are_triples {K : PySem.W.Frag} {mg : Str → Option Value} (T : Txt K mg) : Binds K T.d_are_triples ["thing", "steps"] [] := T.F_are_triples.binds fun _ _ _ _ _ _ us hl => match us, hl with | [_, _], _ => rfl
theorem b_links_of {K : PySem.W.Frag} {mg : Str → Option Value} (T : Txt K mg) : Binds K T.d_links_of ["needs", "befores"] [] := T.F_links_of.binds fun _ _ _ _ _ _ us hl => match us, hl with | [_, _], _ => rfl
theorem b_idle_ring {K : PySem.W.Frag} {mg : Str → Option Value} (T : Txt K mg) : Binds K T.d_idle_ring ["steps", "links"] [] := T.F_idle_ring.binds fun _ _ _ _ _ _ us hl => match us, hl with | [_, _], _ => rfl
theorem b_init {K : PySem.W.Frag} {mg : Str → Option Value} (T : Txt K mg) : Binds K T.d_init ["self", "steps", "needs", "befores"] [] := T.F_init.binds fun _ _ _ _ _ _ us hl => match us, hl with | [_, _, _, _], _ => rfl
theorem b_keep {K : PySem.W.Frag} {mg : Str → Option Value} (T : Txt K mg) : Binds K T.d_keep ["self", "steps", "needs", "befores"] [] := T.F_keep.binds fun _ _ _ _ _ _ us hl => match us, hl with | [_, _, _, _], _ => rfl
theorem b_is_step {K : PySem.W.Frag} {mg : Str → Option Value} (T : Txt K mg) : Binds K T.d_is_step ["program", "thing"] [] := T.F_is_step.binds fun _ _ _ _ _ _ us hl => match us, hl with | [_, _], _ => rfl
theorem b_check_step {K : PySem.W.Frag} {mg : Str → Option Value} (T : Txt K mg) : Binds K T.d_check_step ["program", "thing"] [] := T.F_check_step.binds fun _ _ _ _ _ _ us hl => match us, hl with | [_, _], _ => rfl
theorem b_is_doing {K : PySem.W.Frag} {mg : Str → Option Value} (T : Txt K mg) : Binds K T.d_is_doing ["program", "thing"] [] := T.F_is_doing.binds fun _ _ _ _ _ _ us hl => match us, hl with | [_, _], _ => rfl
theorem b_check_doing {K : PySem.W.Frag} {mg : Str → Option Value} (T : Txt K mg) : Binds K T.d_check_doing ["program", "thing"] [] := T.F_check_doing.binds fun _ _ _ _ _ _ us hl => match us, hl with | [_, _], _ => rfl
theorem b_rounds_table {K : PySem.W.Frag} {mg : Str → Option Value} (T : Txt K mg) : Binds K T.d_rounds_table ["program"] [] := T.F_rounds_table.binds fun _ _ _ _ _ _ us hl => match us, hl with | [_], _ => rfl
theorem b_lowered {K : PySem.W.Frag} {mg : Str → Option Value} (T : Txt K mg) : Binds K T.d_lowered ["row", "middle", "ahead"] [] := T.F_lowered.binds fun _ _ _ _ _ _ us hl => match us, hl with | [_, _, _], _ => rfl
theorem b_least_rounds {K : PySem.W.Frag} {mg : Str → Option Value} (T : Txt K mg) : Binds K T.d_least_rounds ["program", "one", "other"] [] := T.F_least_rounds.binds fun _ _ _ _ _ _ us hl => match us, hl with | [_, _, _], _ => rfl
theorem b_is_behind {K : PySem.W.Frag} {mg : Str → Option Value} (T : Txt K mg) : Binds K T.d_is_behind ["table", "first", "second"] [] := T.F_is_behind.binds fun _ _ _ _ _ _ us hl => match us, hl with | [_, _, _], _ => rfl
theorem b_surely {K : PySem.W.Frag} {mg : Str → Option Value} (T : Txt K mg) : Binds K T.d_surely ["program", "first", "second"] [] := T.F_surely.binds fun _ _ _ _ _ _ us hl => match us, hl with | [_, _, _], _ => rfl
theorem b_law_pool {K : PySem.W.Frag} {mg : Str → Option Value} (T : Txt K mg) : Binds K T.d_law_pool ["_law_script"] [] := T.F_law_pool.binds fun _ _ _ _ _ _ us hl => match us, hl with | [_], _ => rfl
theorem b_law_draw {K : PySem.W.Frag} {mg : Str → Option Value} (T : Txt K mg) : Binds K T.d_law_draw ["_law_pool_here", "_law_many"] [] := T.F_law_draw.binds fun _ _ _ _ _ _ us hl => match us, hl with | [_, _], _ => rfl
theorem b_law_mixed {K : PySem.W.Frag} {mg : Str → Option Value} (T : Txt K mg) : Binds K T.d_law_mixed ["_law_pool_here", "_law_things"] [] := T.F_law_mixed.binds fun _ _ _ _ _ _ us hl => match us, hl with | [_, _], _ => rfl
theorem b_law_some_links {K : PySem.W.Frag} {mg : Str → Option Value} (T : Txt K mg) : Binds K T.d_law_some_links ["_law_pool_here", "_law_places", "_law_many", "_law_far"] [] := T.F_law_some_links.binds fun _ _ _ _ _ _ us hl => match us, hl with | [_, _, _, _], _ => rfl
theorem b_law_ring_links {K : PySem.W.Frag} {mg : Str → Option Value} (T : Txt K mg) : Binds K T.d_law_ring_links ["_law_pool_here", "_law_places"] [] := T.F_law_ring_links.binds fun _ _ _ _ _ _ us hl => match us, hl with | [_, _], _ => rfl
theorem b_law_spec {K : PySem.W.Frag} {mg : Str → Option Value} (T : Txt K mg) : Binds K T.d_law_spec ["_law_pool_here", "_law_most"] [] := T.F_law_spec.binds fun _ _ _ _ _ _ us hl => match us, hl with | [_, _], _ => rfl
theorem b_law_program {K : PySem.W.Frag} {mg : Str → Option Value} (T : Txt K mg) : Binds K T.d_law_program ["_law_spec_here"] [] := T.F_law_program.binds fun _ _ _ _ _ _ us hl => match us, hl with | [_], _ => rfl
theorem b_law_links {K : PySem.W.Frag} {mg : Str → Option Value} (T : Txt K mg) : Binds K T.d_law_links ["_law_spec_here"] [] := T.F_law_links.binds fun _ _ _ _ _ _ us hl => match us, hl with | [_], _ => rfl
theorem b_law_table {K : PySem.W.Frag} {mg : Str → Option Value} (T : Txt K mg) : Binds K T.d_law_table ["_law_spec_here"] [] := T.F_law_table.binds fun _ _ _ _ _ _ us hl => match us, hl with | [_], _ => rfl
theorem b_law_free {K : PySem.W.Frag} {mg : Str → Option Value} (T : Txt K mg) : Binds K T.d_law_free ["_law_spec_here", "_law_counts", "_law_step"] [] := T.F_law_free.binds fun _ _ _ _ _ _ us hl => match us, hl with | [_, _, _], _ => rfl
theorem b_law_flood {K : PySem.W.Frag} {mg : Str → Option Value} (T : Txt K mg) : Binds K T.d_law_flood ["_law_spec_here", "_law_bound"] [] := T.F_law_flood.binds fun _ _ _ _ _ _ us hl => match us, hl with | [_, _], _ => rfl
theorem b_law_least_counts {K : PySem.W.Frag} {mg : Str → Option Value} (T : Txt K mg) : Binds K T.d_law_least_counts ["_law_spec_here", "_law_states", "_law_bound"] [] := T.F_law_least_counts.binds fun _ _ _ _ _ _ us hl => match us, hl with | [_, _, _], _ => rfl
theorem b_law {K : PySem.W.Frag} {mg : Str → Option Value} (T : Txt K mg) : Binds K T.d_law ["_law_script"] [] := T.F_law.binds fun _ _ _ _ _ _ us hl => match us, hl with | [_], _ => rfl
theorem hu64 {A : Around} {k : Nat} (hr : Room k A) : A.units + 64 < cLine := by have := hr.un; omega
theorem hu65 {A : Around} {k : Nat} (hr : Room k A) : A.units + 65 < cLine := by have := hr.un; omega

/-! names for readings that the layer's rules give without one -/
abbrev rLenS (K : PySem.W.Frag) : List V → Hp → VK → Prop := fun xs H Q => ∃ p ys, xs = [.ref p] ∧ (SqL K H p ys ∨ SqT K H p ys) ∧ Q (.int ys.length) H
abbrev rTupOf (K : PySem.W.Frag) : List V → Hp → VK → Prop := fun xs H Q => ∃ p ys, xs = [.ref p] ∧ ((SqL K H p ys ∧ ∀ l, H l = none → Q (.ref l) (upd H l (.tup ys))) ∨ (SqT K H p ys ∧ Q (.ref p) H))
abbrev rAbs : List V → Hp → VK → Prop := fun xs H Q => ∃ i, xs = [.int i] ∧ Q (.int (if i < 0 then -i else i)) H
/-! ### heaps -/
/-- all that is tracked outside S stands -/
def Nx (S : List Addr) (H H' : Hp) : Prop := ∀ b o, b ∉ S → H b = some o → H' b = some o
section
variable {S S' : List Addr} {H H' H1 H2 : Hp} {p : Addr} {o : HO} {K : PySem.W.Frag}
theorem Nx.refl : Nx S H H := fun _ _ _ h => h
theorem Nx.trans (a : Nx S H H1) (b : Nx S H1 H2) : Nx S H H2 := fun c u n h => b c u n (a c u n h)
theorem Nx.mono (a : Nx S H H1) (h : ∀ b ∈ S, b ∈ S') : Nx S' H H1 := fun c u n e => a c u (fun m => n (h c m)) e
theorem Nx.of (a : Same H H1) : Nx S H H1 := fun c u _ h => a c u h
theorem Nx.new (h : H p = none) : Nx S H (upd H p o) := fun b u _ e => by rw [upd_ne (ne_of_none e h)]; exact e
theorem Nx.put (h : p ∈ S) : Nx S H (upd H p o) := fun b u n e => by
  rw [upd_ne fun z => n (by rw [z]; exact h)]
  exact e
theorem Nx.put' (a : Nx S H H1) (h : p ∈ S ∨ H p = none) : Nx S H (upd H1 p o) := fun b u n e => by
  have ne : b ≠ p := by
    rcases h with h | h
    · exact fun z => n (by rw [z]; exact h)
    · exact ne_of_none e h
  rw [upd_ne ne]
  exact a b u n e
theorem Nx.same (a : Nx [] H H1) : Same H H1 := fun b u e => a b u (by simp) e
theorem Same.new (h : H p = none) : Same H (upd H p o) := fun b u e => by rw [upd_ne (ne_of_none e h)]; exact e
/-- a free place was free ahead -/
theorem Nx.none (a : Nx S H H1) (h : H1 p = none) : p ∈ S ∨ H p = none := by
  by_cases m : p ∈ S
  · exact .inl m
  · refine .inr ?_
    cases e : H p with
    | none => rfl
    | some u =>
      rw [a p u m e] at h
      cases h
theorem Same.none (a : Same H H1) (h : H1 p = none) : H p = none := by
  cases e : H p with
  | none => rfl
  | some u =>
    rw [a p u e] at h
    cases h
theorem Nx.sqL {xs : List V} (a : Nx S H H1) (n : p ∉ S) (h : SqL K H p xs) : SqL K H1 p xs := by
  rcases h with (h | ⟨o, h⟩) | h
  · exact .inl (.inl (a _ _ n h))
  · exact .inl (.inr ⟨o, a _ _ n h⟩)
  · exact .inr h
theorem Same.sqT {xs : List V} (a : Same H H1) (h : SqT K H p xs) : SqT K H1 p xs := by
  rcases h with (h | ⟨o, h⟩) | h
  · exact .inl (.inl (a _ _ h))
  · exact .inl (.inr ⟨o, a _ _ h⟩)
  · exact .inr h
end
/-- two objects of unlike make stand apart -/
theorem lt_ne {H : Hp} {a b : Addr} {xs ys : List V} (h : H a = some (.tup xs)) (h' : H b = some (.lst ys)) : a ≠ b := ne_of h h' fun z => nomatch z
/-- a number as a value -/
abbrev VI (n : Nat) : V := .int (n : Int)
def VO : Option Nat → V
  | none => .non
  | some d => VI d
/-- a triple's tuple -/
def Tr (H : Hp) (a : Addr) (l : Lk) : Prop := H a = some (.tup [VI l.1, VI l.2.1, VI l.2.2])
abbrev Trs (H : Hp) : List Addr → List Lk → Prop := Paired fun a l => Tr H a l
theorem Trs.keep {H H' : Hp} {as : List Addr} {ls : List Lk} (r : Trs H as ls) (h : ∀ b xs, H b = some (.tup xs) → H' b = some (.tup xs)) : Trs H' as ls := Paired.mapP r fun _ _ z => h _ _ z
theorem pget {α β : Type} {F : α → β → Prop} : ∀ {l1 : List α} {l2 : List β} {i : Nat} {x : α}, Paired F l1 l2 → l1[i]? = some x → ∃ y, l2[i]? = some y ∧ F x y
  | _, _, _, _, .nil, e => by simp at e
  | _, _, 0, _, .cons r _, e => by simp at e; subst e; exact ⟨_, rfl, r⟩
  | _, _, i + 1, _, .cons _ t, e => by
    obtain ⟨y, h1, h2⟩ := pget (i := i) t (by simpa using e)
    exact ⟨y, by simpa using h1, h2⟩
theorem pgetR {α β : Type} {F : α → β → Prop} : ∀ {l1 : List α} {l2 : List β} {i : Nat} {y : β}, Paired F l1 l2 → l2[i]? = some y → ∃ x, l1[i]? = some x ∧ F x y
  | _, _, _, _, .nil, e => by simp at e
  | _, _, 0, _, .cons r _, e => by simp at e; subst e; exact ⟨_, rfl, r⟩
  | _, _, i + 1, _, .cons _ t, e => by
    obtain ⟨y, h1, h2⟩ := pgetR (i := i) t (by simpa using e)
    exact ⟨y, by simpa using h1, h2⟩
theorem at_ {xs : List V} {z : Int} {j : Nat} {v : V} (e : z = (j : Int)) (h : xs[j]? = some v) : atI xs z = some v := by
  subst e
  exact atI_nat h
theorem ifF {c A B : Prop} [Decidable c] (h : ¬ c) (b : B) : if decide c = true then A else B := by
  rw [decide_eq_false h]
  exact iteF b
theorem ifT {c A B : Prop} [Decidable c] (h : c) (a : A) : if decide c = true then A else B := by
  rw [decide_eq_true h]
  exact iteT a
theorem ifN {c A B : Prop} [Decidable c] (h : ¬ c) (a : A) : if (!decide c) = true then A else B := by
  rw [decide_eq_false h]
  exact iteT a
theorem if2 {c A B : Prop} [Decidable c] (h1 : c → A) (h2 : ¬ c → B) : if decide c = true then A else B := by
  by_cases h : c
  · exact ifT h (h1 h)
  · exact ifF h (h2 h)
theorem ifN2 {c A B : Prop} [Decidable c] (h1 : ¬ c → A) (h2 : c → B) : if (!decide c) = true then A else B := by
  by_cases h : c
  · exact iteNS h (h2 h)
  · exact ifN h (h1 h)
theorem valV_no {κ : Type} [DecidableEq κ] {kvs : List (κ × V)} {k : κ} (h : k ∉ kvs.map (·.1)) : valV kvs k = none := by
  cases e : valV kvs k with
  | none => rfl
  | some v => exact absurd (valV_in e) h
theorem ifB {b : Bool} {A B : Prop} (h1 : b = true → A) (h2 : b = false → B) : if b = true then A else B := by
  cases b with
  | true => exact iteT (h1 rfl)
  | false => exact iteF (h2 rfl)
theorem VI_eq {a b : Nat} : (VI a = VI b) ↔ a = b := ⟨fun h => by injection h with h; exact Int.ofNat_inj.mp h, fun h => by rw [h]⟩
/-! readings, one step unfolded -/
theorem rd_set {te : TE} {i : Nat} {u : TS} {D : Ends} {σ : L2.St} {H : Hp} (h : te σ H fun x H1 => u D (σ.set i (some x)) H1) : tSeq (tAsg te (gName i)) u D σ H := h
theorem rd_expr {te : TE} {u : TS} {D : Ends} {σ : L2.St} {H : Hp} (h : te σ H fun _ H1 => u D σ H1) : tSeq (tDrop te) u D σ H := h
theorem rd_seq {t u : TS} {D : Ends} {σ : L2.St} {H : Hp} (h : t { D with nx := u D } σ H) : tSeq t u D σ H := h
theorem rd_ret {te : TE} {D : Ends} {σ : L2.St} {H : Hp} (h : te σ H D.rt) : tRet te D σ H := h
theorem rd_for {wi : TI} {g : TG} {tb : TS} {D : Ends} {σ : L2.St} {H : Hp} (h : wi σ H fun J H1 => ∃ W : Nat → Nat → L2.St → Hp → Prop, (∃ m, W 0 m σ H1) ∧ ∀ i m σ H, W i m σ H →
    (J.stop i H ∧ D.nx σ H) ∨ (J.go i H ∧ ∃ N : L2.St → Hp → Prop, (∀ σ' H', N σ' H' → ∃ m', m' < m ∧ W (i + 1) m' σ' H') ∧ ∀ x H', J.yld i H x H' → g x σ H' fun σ2 H2 => tb { D with nx := N, ct := N, bk := D.nx } σ2 H2)) : tFor wi g tb D σ H := h
theorem small {n : Nat} (h : n ≤ 1000000) : n < sizeLine := Nat.lt_of_le_of_lt h (by decide)
end K24

/-! The checks: is_integer, is_within, is_from, is_pair, is_triple. -/
namespace K24
open PySem PySem.Spec PyProof.Rows L2
section
variable {P : Program} {w : World} {K : PySem.W.Frag} {mg : Str → Option Value} {base : Heap}
def sp_is_integer : Sp := fun vs H Q _ => ∃ i : Int, vs = [.int i] ∧ Q (.bl true) H
theorem ok_is_integer (T : Txt K mg) : FnOk P w K mg base CX0 1 T.f_is_integer T.d_is_integer ["thing"] sp_is_integer := by
  refine T.F_is_integer.ok sc_is_integer (fun vs H Q E h => ?_) (fun cdv A outer s H vs Q E hr h => ?_)
  · obtain ⟨i, rfl, _⟩ := h
    rfl
  · obtain ⟨i, rfl, q⟩ := h
    refine ⟨_, (pss_one (ps_ret (pe_and (pe_callB call_isi (by rfl) T.n_isinstance (by decide +kernel) (pa_cons (pv 0) (pa_cons (pe_bltn (v := .ty "int") (by rfl) T.n_int (by decide +kernel) rfl) pa_nil))) (pe_one (pe_not (pe_callB call_isi (by rfl) T.n_isinstance (by decide +kernel) (pa_cons (pv 0) (pa_cons (pe_bltn (v := .ty "bool") (by rfl) T.n_bool (by decide +kernel) rfl) pa_nil)))))))), ?_⟩
    refine ⟨_, rfl, _, _, _, _, _, rfl, .ty "int", .base (.int i), kit_ty (by decide +kernel), true, rfl, iteT ?_⟩
    exact ⟨_, rfl, _, _, _, _, _, rfl, .ty "bool", .base (.int i), kit_ty (r := false) (by decide +kernel), false, rfl, q⟩
def sp_is_within : Sp := fun vs H Q _ => ∃ i lo hi : Int, vs = [.int i, .int lo, .int hi] ∧ lo ≤ i ∧ i ≤ hi ∧ Q (.bl true) H
theorem ok_is_within (T : Txt K mg) : FnOk P w K mg base CX0 2 T.f_is_within T.d_is_within ["thing", "least", "most"] sp_is_within := by
  refine T.F_is_within.ok sc_is_within (fun vs H Q E h => ?_) (fun cdv A outer s H vs Q E hr h => ?_)
  · obtain ⟨i, lo, hi, rfl, _⟩ := h
    rfl
  · obtain ⟨i, lo, hi, rfl, h1, h2, q⟩ := h
    refine ⟨_, (pss_one (ps_ret (pe_and (pe_call (ok_is_integer T) (hr.mono (by decide)) (by rfl) T.m_is_integer T.F_is_integer.kp (b_is_integer T) .nil pass0 (pa_cons (pv 0) pa_nil)) (pe_one (pe_chain op_le op_le (pv 1) (pv 0) (pv 2)))))), ?_⟩
    refine ⟨_, rfl, i, rfl, true, rfl, iteT ?_⟩
    refine ⟨_, rfl, _, rfl, lo, i, rfl, rfl, true, congrArg V.bl (decide_eq_true h1), iteT ⟨_, rfl, i, hi, rfl, rfl, ?_⟩⟩
    show Q (.bl (decide (i ≤ hi))) H
    rw [decide_eq_true h2]
    exact q
def sp_is_from : Sp := fun vs H Q _ => ∃ i lo : Int, vs = [.int i, .int lo] ∧ lo ≤ i ∧ Q (.bl true) H
theorem ok_is_from (T : Txt K mg) : FnOk P w K mg base CX0 2 T.f_is_from T.d_is_from ["thing", "least"] sp_is_from := by
  refine T.F_is_from.ok sc_is_from (fun vs H Q E h => ?_) (fun cdv A outer s H vs Q E hr h => ?_)
  · obtain ⟨i, lo, rfl, _⟩ := h
    rfl
  · obtain ⟨i, lo, rfl, h1, q⟩ := h
    refine ⟨_, (pss_one (ps_ret (pe_and (pe_call (ok_is_integer T) (hr.mono (by decide)) (by rfl) T.m_is_integer T.F_is_integer.kp (b_is_integer T) .nil pass0 (pa_cons (pv 0) pa_nil)) (pe_one (pe_cmpR op_ge (pv 0) (pv 1) (nomark _)))))), ?_⟩
    refine ⟨_, rfl, i, rfl, true, rfl, iteT ?_⟩
    refine ⟨_, rfl, _, rfl, _, _, rfl, rfl, ?_⟩
    show Q (.bl (decide (lo ≤ i))) H
    rw [decide_eq_true h1]
    exact q
def sp_is_pair : Sp := fun vs H Q _ => ∃ (a : Addr) (x y : V), vs = [.ref a] ∧ H a = some (.tup [x, y]) ∧ Q (.bl true) H
theorem ok_is_pair (T : Txt K mg) : FnOk P w K mg base CX0 1 T.f_is_pair T.d_is_pair ["thing"] sp_is_pair := by
  refine T.F_is_pair.ok sc_is_pair (fun vs H Q E h => ?_) (fun cdv A outer s H vs Q E hr h => ?_)
  · obtain ⟨a, x, y, rfl, _⟩ := h
    rfl
  · obtain ⟨a, x, y, rfl, ha, q⟩ := h
    refine ⟨_, (pss_one (ps_ret (pe_and (pe_callB call_isi (by rfl) T.n_isinstance (by decide +kernel) (pa_cons (pv 0) (pa_cons (pe_bltn (v := .ty "tuple") (by rfl) T.n_tuple (by decide +kernel) rfl) pa_nil))) (pe_one (pe_cmpR op_eq (pe_callB call_len_seq (by rfl) T.n_len (by decide +kernel) (pa_cons (pv 0) pa_nil)) pe_int (nomark _)))))), ?_⟩
    refine ⟨_, rfl, _, _, _, _, _, rfl, .ty "tuple", .base (.tup ha), kit_ty (by decide +kernel), true, rfl, iteT ?_⟩
    exact ⟨_, rfl, a, _, rfl, .inr (SqT.of ha), rfl, q⟩
def sp_is_triple : Sp := fun vs H Q _ => ∃ (a : Addr) (l : Lk) (n : Nat), vs = [.ref a, VI n] ∧ Tr H a l ∧ l.1 < n ∧ l.2.1 < n ∧ l.2.2 ≤ 6 ∧ Q (.bl true) H
theorem ok_is_triple (T : Txt K mg) : FnOk P w K mg base CX0 3 T.f_is_triple T.d_is_triple ["thing", "steps"] sp_is_triple := by
  refine T.F_is_triple.ok sc_is_triple (fun vs H Q E h => ?_) (fun cdv A outer s H vs Q E hr h => ?_)
  · obtain ⟨a, l, n, rfl, _⟩ := h
    rfl
  · obtain ⟨a, l, n, rfl, ha, h1, h2, h3, q⟩ := h
    have hT : SqT K H a [VI l.1, VI l.2.1, VI l.2.2] := SqT.of ha
    refine ⟨_, (pss_cons (ps_if (PW.pt (pw_or (pt_not (pt_val (pe_callB call_isi (by rfl) T.n_isinstance (by decide +kernel) (pa_cons (pv 0) (pa_cons (pe_bltn (v := .ty "tuple") (by rfl) T.n_tuple (by decide +kernel) rfl) pa_nil))))) (pw_or (pt_cmpR op_ne (pe_callB call_len_seq (by rfl) T.n_len (by decide +kernel) (pa_cons (pv 0) pa_nil)) pe_int (nomark _)) (pw_or1 (pt_not (pt_val (pe_call (ok_is_within T) (hr.mono (by decide)) (by rfl) T.m_is_within T.F_is_within.kp (b_is_within T) .nil pass0 (pa_cons (pe_ix ix_tup (pv 0) pe_int (fun _ _ => rfl)) (pa_cons pe_int (pa_cons (pe_glob (v := .int 6) (by rfl) T.m_MOST_ROUNDS ⟨_, rfl⟩) pa_nil)))))))))) (pss_one (ps_ret pe_bl)) pss_nil)
      (pss_one (ps_ret (pe_and (pe_call (ok_is_within T) (hr.mono (by decide)) (by rfl) T.m_is_within T.F_is_within.kp (b_is_within T) .nil pass0 (pa_cons (pe_ix ix_tup (pv 0) pe_int (fun _ _ => rfl)) (pa_cons pe_int (pa_cons (pe_op op_sub (pv 1) pe_int) pa_nil)))) (pe_one (pe_call (ok_is_within T) (hr.mono (by decide)) (by rfl) T.m_is_within T.F_is_within.kp (b_is_within T) .nil pass0 (pa_cons (pe_ix ix_tup (pv 0) pe_int (fun _ _ => rfl)) (pa_cons pe_int (pa_cons (pe_op op_sub (pv 1) pe_int) pa_nil))))))))), ?_⟩
    refine ⟨_, rfl, _, _, _, _, _, rfl, .ty "tuple", .base (.tup ha), kit_ty (by decide +kernel), true, rfl, iteF ?_⟩
    refine ⟨_, rfl, a, _, rfl, .inr hT, rfl, _, rfl, ?_⟩
    refine iteNS rfl ?_
    refine ⟨_, rfl, a, _, _, VI l.2.2, rfl, rfl, hT, at_ (j := 2) rfl rfl, _, _, _, rfl, by omega, by omega, true, rfl, iteF ?_⟩
    refine ⟨_, rfl, a, _, _, VI l.1, rfl, rfl, hT, at_ (j := 0) rfl rfl, _, rfl, _, _, rfl, rfl, _, _, _, rfl, by omega, by omega, true, rfl, iteT ?_⟩
    exact ⟨_, rfl, a, _, _, VI l.2.1, rfl, rfl, hT, at_ (j := 1) rfl rfl, _, rfl, _, _, rfl, rfl, _, _, _, rfl, by omega, by omega, q⟩
def sp_are_triples : Sp := fun vs H Q _ => ∃ (a : Addr) (as : List Addr) (ls : List Lk) (n : Nat), vs = [.ref a, VI n] ∧ H a = some (.tup (as.map V.ref)) ∧ Trs H as ls ∧ ls.length ≤ 40 ∧ ls.Nodup ∧ (∀ l ∈ ls, l.1 < n ∧ l.2.1 < n ∧ l.2.2 ≤ 6) ∧
  ∀ H', Same H H' → Q (.bl true) H'
theorem ok_are_triples (T : Txt K mg) : FnOk P w K mg base CX0 4 T.f_are_triples T.d_are_triples ["thing", "steps"] sp_are_triples := by
  refine T.F_are_triples.ok sc_are_triples (fun vs H Q E h => ?_) (fun cdv A outer s H vs Q E hr h => ?_)
  · obtain ⟨a, as, ls, n, rfl, _⟩ := h
    rfl
  · obtain ⟨a, as, ls, n, rfl, ha, ht, h40, hnd, hin, q⟩ := h
    have hT : SqT K H a (as.map V.ref) := SqT.of ha
    refine ⟨_, (pss_cons (ps_if (PW.pt (pw_or (pt_not (pt_val (pe_callB call_isi (by rfl) T.n_isinstance (by decide +kernel) (pa_cons (pv 0) (pa_cons (pe_bltn (v := .ty "tuple") (by rfl) T.n_tuple (by decide +kernel) rfl) pa_nil))))) (pw_or1 (pt_cmpR op_gt (pe_callB call_len_seq (by rfl) T.n_len (by decide +kernel) (pa_cons (pv 0) pa_nil)) (pe_glob (v := .int 40) (by rfl) T.m_MOST_LINKS ⟨_, rfl⟩) (nomark _))))) (pss_one (ps_ret pe_bl)) pss_nil)
      (pss_cons (ps_if (pt_not (pt_val (pe_callB (cr_all rfl) (by rfl) T.n_all (by decide +kernel) (pa_cons (pe_lc (own := [("link", 2)]) (g := (gName 2)) (te := (tCall sp_is_triple [] E0 (tCons (tVar 2) (tCons (tVar 1) tNil)))) (by rfl) sc_are_triples.nd (pi_tup (pv 0)) (blkOk_by (by kernel_rfl)) (fun _ _ _ _ _ => (pg_name (i := 2) sc_are_triples.nd rfl (.inl rfl))) (fun _ _ _ _ _ => pts_nil) (fun _ _ _ _ _ => (pe_call (ok_is_triple T) (hr.mono (by decide)) (by rfl) T.m_is_triple T.F_is_triple.kp (b_is_triple T) .nil pass0 (pa_cons (pv 2) (pa_cons (pv 1) pa_nil))))) pa_nil)))) (pss_one (ps_ret pe_bl)) pss_nil)
      (pss_one (ps_ret (pe_cmpR op_eq (pe_callB call_len_dT (by rfl) T.n_len (by decide +kernel) (pa_cons (pe_dcT (own := [("link", 2)]) hr.units0 (by rfl) sc_are_triples.nd (pi_tup (pv 0)) (blkOk_by (by kernel_rfl)) (fun _ _ _ _ _ => (pg_name (i := 2) sc_are_triples.nd rfl (.inl rfl))) (fun _ _ _ _ _ => (pv 2)) (fun _ _ _ _ _ => pe_bl)) pa_nil)) (pe_callB call_len_seq (by rfl) T.n_len (by decide +kernel) (pa_cons (pv 0) pa_nil)) (nomark _)))))), ?_⟩
    refine ⟨_, rfl, _, _, _, _, _, rfl, .ty "tuple", .base (.tup ha), kit_ty (by decide +kernel), true, rfl, iteF ?_⟩
    have hlen : as.length = ls.length := Paired.length ht
    refine ⟨_, rfl, a, _, rfl, .inr hT, _, _, rfl, rfl, _, rfl, ifF (by rw [List.length_map]; omega) ?_⟩
    -- all([..])
    refine ⟨_, rfl, a, rfl, ⟨_, hT⟩, fun D nD => lc_it walk_tup (fun i H' => Same H H' ∧ H' D = some (.lst (List.replicate i (.bl true)))) ⟨Same.new nD, upd_same⟩ (fun i H' _ h => Same.sqT h.1 hT) (fun i x H1 H2 hi h1 hy => ?_) fun H1 h1 => ?_⟩
    · obtain ⟨rfl, hx⟩ := hy
      obtain ⟨s1, hD⟩ := h1
      have hi' : i < as.length := by simpa using hi
      have hx' : x = .ref as[i] := by
        rw [List.getElem?_map, List.getElem?_eq_getElem hi'] at hx
        exact (Option.some.inj hx).symm
      subst hx'
      obtain ⟨l, hl, htr⟩ := pget ht (List.getElem?_eq_getElem hi')
      obtain ⟨i1, i2, i3⟩ := hin l (List.mem_of_getElem? hl)
      refine ⟨rfl, _, rfl, _, rfl, _, l, n, rfl, s1 _ _ htr, i1, i2, i3, _, hD, ?_, fun b o e => ?_, ?_⟩
      · rw [List.length_replicate]
        exact small (by omega)
      · rw [upd_ne (ne_of_none e nD)]
        exact s1 _ _ e
      · rw [upd_same, List.replicate_succ']
    · obtain ⟨s1, hD⟩ := h1
      have ebs : (List.replicate (as.map V.ref).length (V.bl true)) = (List.replicate as.length true).map V.bl := by rw [List.map_replicate, List.length_map]
      rw [ebs] at hD
      refine ⟨D, _, rfl, SqL.of hD, true, ?_, iteF ?_⟩
      · have e : (List.replicate as.length true).all id = true := by simp
        rw [e]
      -- len({..}) == len(thing)
      have hT1 : SqT K H1 a (as.map V.ref) := Same.sqT s1 hT
      let key : Lk → List Key := fun l => [Sum.inl (l.1 : Int), Sum.inl (l.2.1 : Int), Sum.inl (l.2.2 : Int)]
      refine ⟨_, rfl, a, rfl, ⟨_, hT1⟩, fun D2 nD2 => dcT_it walk_tup (fun i H' => Same H1 H' ∧ H' D2 = some (.dT ((ls.take i).map fun l => (key l, V.bl true)))) ⟨Same.new nD2, upd_same⟩ (fun i H' _ h => Same.sqT h.1 hT1) (fun i x H2 H3 hi h2 hy => ?_) fun H2 h2 => ?_⟩
      · obtain ⟨rfl, hx⟩ := hy
        obtain ⟨s2, hD2⟩ := h2
        have hi' : i < as.length := by simpa using hi
        have hx' : x = .ref as[i] := by
          rw [List.getElem?_map, List.getElem?_eq_getElem hi'] at hx
          exact (Option.some.inj hx).symm
        subst hx'
        obtain ⟨l, hl, htr⟩ := pget ht (List.getElem?_eq_getElem hi')
        have fresh : valV ((ls.take i).map fun l => (key l, V.bl true)) (key l) = none := by
          refine valV_no fun m => ?_
          rw [List.map_map] at m
          obtain ⟨l', hl', e⟩ := List.mem_map.mp m
          have e' : [(Sum.inl (l'.1 : Int) : Key), Sum.inl (l'.2.1 : Int), Sum.inl (l'.2.2 : Int)] = [Sum.inl (l.1 : Int), Sum.inl (l.2.1 : Int), Sum.inl (l.2.2 : Int)] := e
          simp only [List.cons.injEq, Sum.inl.injEq, and_true] at e'
          have el : l' = l := by
            obtain ⟨a1, b1, c1⟩ := l'
            obtain ⟨a2, b2, c2⟩ := l
            obtain ⟨q1, q2, q3⟩ := e'
            have q1 : (a1 : Int) = a2 := q1
            have q2 : (b1 : Int) = b2 := q2
            have q3 : (c1 : Int) = c2 := q3
            rw [Int.ofNat_inj.mp q1, Int.ofNat_inj.mp q2, Int.ofNat_inj.mp q3]
          subst el
          obtain ⟨j, hj, e2⟩ := List.getElem_of_mem hl'
          rw [List.length_take] at hj
          rw [List.getElem_take] at e2
          have e3 : ls[j]? = some l' := by rw [List.getElem?_eq_getElem (by omega), e2]
          have := nd_ix hnd e3 hl
          omega
        refine ⟨rfl, _, rfl, as[i], _, key l, rfl, s2 _ _ (s1 _ _ htr), hD2, ?_, fun b o e => ?_, ?_⟩
        · rw [List.length_map, List.length_take]
          exact small (by omega)
        · rw [upd_ne (ne_of_none e nD2)]
          exact s2 _ _ e
        · rw [upd_same, putK_new _ fresh, List.take_add_one, hl, List.map_append]
          rfl
      · obtain ⟨s2, hD2⟩ := h2
        refine ⟨D2, _, rfl, hD2, _, rfl, a, _, rfl, .inr (Same.sqT s2 hT1), rfl, ?_⟩
        have el : (((ls.take (as.map V.ref).length).map fun l => (key l, V.bl true)).length : Nat) = (as.map V.ref).length := by
          rw [List.length_map, List.length_take, List.length_map]
          omega
        rw [el, decide_eq_true rfl]
        exact q H2 (Same.trans s1 s2)
end
end K24

/-! Program: links_of, idle_ring, keep, __init__. -/
namespace K24
open PySem PySem.Spec PyProof.Rows L2
def Tr5 (H : Hp) (a : Addr) (l : Lk) : Prop := ∃ x y, H a = some (.tup [VI l.1, VI l.2.1, VI l.2.2, x, y])
abbrev Trs5 (H : Hp) : List Addr → List Lk → Prop := Paired fun a l => Tr5 H a l
theorem Trs5.keep {H H' : Hp} {as : List Addr} {ls : List Lk} (r : Trs5 H as ls) (h : ∀ b xs, H b = some (.tup xs) → H' b = some (.tup xs)) : Trs5 H' as ls := Paired.mapP r fun _ _ z => let ⟨x, y, e⟩ := z; ⟨x, y, h _ _ e⟩
theorem map_get {as : List Addr} {i : Nat} {x : V} (h : (as.map V.ref)[i]? = some x) : ∃ a, x = .ref a ∧ as[i]? = some a := by
  rw [List.getElem?_map] at h
  obtain ⟨a, h1, h2⟩ := Option.map_eq_some_iff.mp h
  exact ⟨a, h2.symm, h1⟩
theorem pappend {α β : Type} {F : α → β → Prop} : ∀ {l1 l2 : List α} {m1 m2 : List β}, Paired F l1 m1 → Paired F l2 m2 → Paired F (l1 ++ l2) (m1 ++ m2)
  | _, _, _, _, .nil, s => s
  | _, _, _, _, .cons r t, s => .cons r (pappend t s)
section
variable {P : Program} {w : World} {K : PySem.W.Frag} {mg : Str → Option Value} {base : Heap}
def sp_links_of : Sp := fun vs H Q _ => ∃ (tn tb : Addr) (as bs : List Addr) (ls ms : List Lk), vs = [.ref tn, .ref tb] ∧ H tn = some (.tup (as.map V.ref)) ∧ H tb = some (.tup (bs.map V.ref)) ∧ Trs H as ls ∧ Trs H bs ms ∧ ls.length ≤ 40 ∧ ms.length ≤ 40 ∧
  ∀ H' t cs, Same H H' → H t = none → H' t = some (.tup (cs.map V.ref)) → Trs5 H' cs (ls ++ ms) → Q (.ref t) H'
/-- one comprehension's turns: the five-tuples of the first links -/
theorem five {H0 H : Hp} {a : Addr} {as : List Addr} {ls : List Lk} (s0 : Same H0 H) (ht : Trs H0 as ls) {i : Nat} {x : V} (hx : (as.map V.ref)[i]? = some x) : ∃ b l, x = .ref b ∧ ls[i]? = some l ∧ H b = some (.tup [VI l.1, VI l.2.1, VI l.2.2]) ∧ i < ls.length := by
  obtain ⟨b, rfl, hb⟩ := map_get hx
  obtain ⟨l, hl, htr⟩ := pget ht hb
  exact ⟨b, l, rfl, hl, s0 _ _ htr, (List.getElem?_eq_some_iff.mp hl).1⟩
theorem lc_five {σ : L2.St} {H : Hp} {Q : VK} {j : Nat} {a : Addr} {as : List Addr} {ls : List Lk} {wd : Str} (hσ : ∃ x0 x1 x2 y3 y4 y5 y6, σ = [x0, x1, x2, y3, y4, y5, y6]) (hj : σ[j]? = some (some (.ref a))) (ha : H a = some (.tup (as.map V.ref)))
    (ht : Trs H as ls) (h40 : ls.length ≤ 40) (q : ∀ D H' cs, Same H H' → H D = none → H' D = some (.lst (cs.map V.ref)) → Trs5 H' cs ls → Q (.ref D) H') :
    tLc (iEnT K (tCons (tVar j) tNil)) (gTup K 2 (gCons (gName 3) (gCons (gTup K 3 (gCons (gName 4) (gCons (gName 5) (gCons (gName 6) gNil)))) gNil))) tYes (tTup (tCons (tVar 4) (tCons (tVar 5) (tCons (tVar 6) (tCons (tC (.str wd)) (tCons (tVar 3) tNil)))))) [3, 4, 5, 6] σ H Q := by
  obtain ⟨x0, x1, x2, y3, y4, y5, y6, rfl⟩ := hσ
  have hT : SqT K H a (as.map V.ref) := SqT.of ha
  have la : as.length = ls.length := Paired.length ht
  refine ⟨_, hj, a, _, rfl, hT, fun D nD => lc_it walk_enumT (fun i H' => Same H H' ∧ ∃ cs, H' D = some (.lst (cs.map V.ref)) ∧ Trs5 H' cs (ls.take i)) ⟨Same.new nD, [], upd_same, .nil⟩ (fun i H' _ h => Same.sqT h.1 hT) (fun i v H1 H2 hi h1 hy => ?_) fun H1 h1 => ?_⟩
  · obtain ⟨s1, cs, hD, hcs⟩ := h1
    obtain ⟨T1, x, y, rfl, nT, rfl, hx, hy⟩ := hy
    cases hx
    obtain ⟨b, l, rfl, hl, hb', hil⟩ := five (a := a) s1 ht hy
    have s2 : Same H1 (upd H1 T1 (.tup [.int (i : Nat), .ref b])) := Same.new nT
    refine ⟨T1, _, rfl, SqT.of upd_same, rfl, _, _, rfl, _, _, rfl, b, _, rfl, SqT.of (s2 _ _ hb'), rfl, _, _, rfl, _, _, rfl, _, _, rfl, rfl, rfl, rfl, ?_⟩
    refine ⟨_, rfl, _, rfl, _, rfl, _, rfl, by show 5 ≤ sizeLine; decide, fun p np => ?_⟩
    have s3 := Same.trans s2 (Same.new (o := .tup [VI l.1, VI l.2.1, VI l.2.2, .str wd, .int (i : Nat)]) np)
    have hlen : cs.length = i := by
      have := Paired.length hcs
      rw [List.length_take] at this
      omega
    have npD : D ≠ p := ne_of_none (s2 _ _ hD) np
    refine ⟨cs.map V.ref, s3 _ _ hD, ?_, fun c o e => ?_, cs ++ [p], ?_, ?_⟩
    · rw [List.length_map]
      exact small (by omega)
    · rw [upd_ne (ne_of_none e nD)]
      exact s3 _ _ (s1 _ _ e)
    · rw [upd_same, List.map_append]
      rfl
    · rw [List.take_add_one, hl]
      refine pappend (Trs5.keep hcs fun c xs e => ?_) (.cons ⟨.str wd, .int (i : Nat), ?_⟩ .nil)
      · rw [upd_ne (lt_ne e hD)]
        exact s3 _ _ e
      · rw [upd_ne npD.symm]
        exact upd_same
  · obtain ⟨s1, cs, hD, hcs⟩ := h1
    rw [List.length_map, la, List.take_length] at hcs
    exact q D H1 cs s1 nD hD hcs
theorem ok_links_of (T : Txt K mg) : FnOk P w K mg base CX0 1 T.f_links_of T.d_links_of ["needs", "befores"] sp_links_of := by
  refine T.F_links_of.ok sc_links_of (fun vs H Q E h => ?_) (fun cdv A outer s H vs Q E hr h => ?_)
  · obtain ⟨tn, tb, as, bs, ls, ms, rfl, _⟩ := h
    rfl
  · obtain ⟨tn, tb, as, bs, ls, ms, rfl, hn, hb, ht, hu, l1, l2, q⟩ := h
    refine ⟨_, (pss_cons (ps_setLc (i := 2) (own := [("index", 3), ("one", 4), ("other", 5), ("rounds", 6)]) (g := (gTup K 2 (gCons (gName 3) (gCons (gTup K 3 (gCons (gName 4) (gCons (gName 5) (gCons (gName 6) gNil)))) gNil)))) (te := (tTup (tCons (tVar 4) (tCons (tVar 5) (tCons (tVar 6) (tCons (tC (.str "need")) (tCons (tVar 3) tNil))))))) (by rfl) sc_links_of.nd rfl rfl (sw_true rfl rfl rfl (by decide +kernel)) (pi_enumT (by rfl) T.n_enumerate (pa_cons (pv 0) pa_nil)) (blkOk_by (by kernel_rfl)) (fun _ _ _ _ _ => (pg_tup rfl (pgs_cons (pg_name (i := 3) sc_links_of.nd rfl (.inl rfl)) (pgs_cons (pg_tup rfl (pgs_cons (pg_name (i := 4) sc_links_of.nd rfl (.inl rfl)) (pgs_cons (pg_name (i := 5) sc_links_of.nd rfl (.inl rfl)) (pgs_cons (pg_name (i := 6) sc_links_of.nd rfl (.inl rfl)) pgs_nil)))) pgs_nil)))) (fun _ _ _ _ _ => pts_nil) (fun _ _ _ _ _ => (pe_tup (pa_cons (pv 4) (pa_cons (pv 5) (pa_cons (pv 6) (pa_cons pe_str (pa_cons (pv 3) pa_nil))))))))
      (pss_cons (ps_expr (pe_bm PySem.F.plainAttrs_list PySem.F.slot_list_extend PySem.F.type_list_extend mt_extend (pv 2) (pa_cons (pe_lc (own := [("index", 3), ("one", 4), ("other", 5), ("rounds", 6)]) (g := (gTup K 2 (gCons (gName 3) (gCons (gTup K 3 (gCons (gName 4) (gCons (gName 5) (gCons (gName 6) gNil)))) gNil)))) (te := (tTup (tCons (tVar 4) (tCons (tVar 5) (tCons (tVar 6) (tCons (tC (.str "before")) (tCons (tVar 3) tNil))))))) (by rfl) sc_links_of.nd (pi_enumT (by rfl) T.n_enumerate (pa_cons (pv 1) pa_nil)) (blkOk_by (by kernel_rfl)) (fun _ _ _ _ _ => (pg_tup rfl (pgs_cons (pg_name (i := 3) sc_links_of.nd rfl (.inl rfl)) (pgs_cons (pg_tup rfl (pgs_cons (pg_name (i := 4) sc_links_of.nd rfl (.inl rfl)) (pgs_cons (pg_name (i := 5) sc_links_of.nd rfl (.inl rfl)) (pgs_cons (pg_name (i := 6) sc_links_of.nd rfl (.inl rfl)) pgs_nil)))) pgs_nil)))) (fun _ _ _ _ _ => pts_nil) (fun _ _ _ _ _ => (pe_tup (pa_cons (pv 4) (pa_cons (pv 5) (pa_cons (pv 6) (pa_cons pe_str (pa_cons (pv 3) pa_nil)))))))) pa_nil)))
      (pss_one (ps_ret (pe_callTy call_tuple_of (by rfl) T.n_tuple (by decide +kernel) (pa_cons (pv 2) pa_nil)))))), ?_⟩
    refine rd_set (lc_five (j := 0) ?_ ?_ hn ht l1 fun D H1 cs s1 nD hD hcs => ?_)
    · exact ⟨_, _, _, _, _, _, _, rfl⟩
    · rfl
    have lc : cs.length = ls.length := Paired.length hcs
    refine ⟨_, rfl, .inl ⟨rfl, _, SqL.of hD⟩, ?_⟩
    refine lc_five (j := 1) ?_ ?_ (s1 _ _ hb) (hu.keep fun c xs e => s1 _ _ e) l2 fun D2 H2 ds s2 nD2 hD2 hds => ?_
    · exact ⟨_, _, _, _, _, _, _, rfl⟩
    · rfl
    have ld : ds.length = ms.length := Paired.length hds
    have hD1 := s2 _ _ hD
    refine ⟨D, D2, _, _, rfl, rfl, hD1, hD2, ?_, ?_⟩
    · rw [List.length_map, List.length_map]
      exact Nat.le_of_lt (small (by omega))
    · refine ⟨_, rfl, D, _, rfl, .inl ⟨SqL.of upd_same, fun t nt => ?_⟩⟩
      have hDt : D ≠ t := fun z => by
        rw [z, upd_same] at nt
        cases nt
      have n2 : H2 t = none := by rwa [upd_ne hDt.symm] at nt
      have keep : ∀ c o, c ≠ D → H2 c = some o → (upd (upd H2 D (.lst (cs.map V.ref ++ ds.map V.ref))) t (.tup (cs.map V.ref ++ ds.map V.ref))) c = some o := fun c o n e => by
        rw [upd_ne (ne_of_none e n2), upd_ne n]
        exact e
      refine q _ t (cs ++ ds) (fun c o e => keep c o (ne_of_none e nD) (s2 _ _ (s1 _ _ e))) ?_ ?_ (pappend (Trs5.keep (Trs5.keep hcs fun c xs e => s2 _ _ e) fun c xs e => keep c _ (lt_ne e hD1) e) (Trs5.keep hds fun c xs e => keep c _ (lt_ne e hD1) e))
      · exact Same.none s1 (Same.none s2 n2)
      · rw [upd_same, List.map_append]
end
end K24

/-! idle_ring: there is none. -/
namespace K24
open PySem PySem.Spec PyProof.Rows L2
/-- steps each of which has a later one among them: there are none -/
theorem none_left (pl : Nat → Nat) {ks : List Nat} (h : ∀ a ∈ ks, ∃ b ∈ ks, pl a < pl b) : ks = [] := by
  cases ks with
  | nil => rfl
  | cons x r =>
    exfalso
    have bound : ∀ l : List Nat, ∃ M, ∀ a ∈ l, pl a ≤ M := by
      intro l
      induction l with
      | nil => exact ⟨0, fun a h => by simp at h⟩
      | cons y l ih =>
        obtain ⟨M, hM⟩ := ih
        refine ⟨M + pl y, fun a ha => ?_⟩
        rcases List.mem_cons.mp ha with rfl | ha
        · omega
        · have := hM a ha
          omega
    obtain ⟨M, hM⟩ := bound (x :: r)
    have go : ∀ (m : Nat) (a : Nat), a ∈ x :: r → M - pl a ≤ m → False := by
      intro m
      induction m with
      | zero =>
        intro a ha hm
        obtain ⟨b, hb, hl⟩ := h a ha
        have := hM b hb
        omega
      | succ m ih =>
        intro a ha hm
        obtain ⟨b, hb, hl⟩ := h a ha
        have := hM b hb
        exact ih b hb (by omega)
    exact go _ x (by simp) (Nat.le_refl _)
theorem all_of_len {ks us : List Nat} (h1 : us.Nodup) (h2 : ∀ a ∈ us, a ∈ ks) (h3 : ks.length ≤ us.length) : ∀ a ∈ ks, a ∈ us := by
  intro a ha
  by_cases m : a ∈ us
  · exact m
  · exfalso
    have : (a :: us).length ≤ ks.length := (List.nodup_cons.mpr ⟨m, h1⟩).length_le_of_subset fun c hc => by
      rcases List.mem_cons.mp hc with rfl | hc
      · exact ha
      · exact h2 c hc
    rw [List.length_cons] at this
    omega
abbrev kk (a : Nat) : Key := Sum.inl (a : Int)
theorem kk_inj {a b : Nat} (h : kk a = kk b) : a = b := by
  have h' : (Sum.inl (a : Int) : Key) = Sum.inl (b : Int) := h
  injection h' with h'
  exact Int.ofNat_inj.mp h'
theorem mem_kk {ks : List Nat} {kvs : List (Key × V)} (h : kvs.map (·.1) = ks.map kk) (a : Nat) : (valV kvs (kk a)).isSome = true ↔ a ∈ ks := by
  constructor
  · intro hs
    obtain ⟨v, hv⟩ := Option.isSome_iff_exists.mp hs
    have m := valV_in hv
    rw [h] at m
    obtain ⟨b, hb, e⟩ := List.mem_map.mp m
    rw [kk_inj e] at hb
    exact hb
  · intro m
    cases e : valV kvs (kk a) with
    | some v => rfl
    | none =>
      refine absurd ?_ (valV_not e)
      rw [h]
      exact List.mem_map.mpr ⟨a, m, rfl⟩
theorem keys_len {ks : List Nat} {kvs : List (Key × V)} (h : kvs.map (·.1) = ks.map kk) : kvs.length = ks.length := by
  have := congrArg List.length h
  rwa [List.length_map, List.length_map] at this
section
variable {P : Program} {w : World} {K : PySem.W.Frag} {mg : Str → Option Value} {base : Heap}
def sp_idle_ring : Sp := fun vs H Q _ => ∃ (n : Nat) (tl : Addr) (cs : List Addr) (ls : List Lk) (pl : Nat → Nat), vs = [VI n, .ref tl] ∧ H tl = some (.tup (cs.map V.ref)) ∧ Trs5 H cs ls ∧ n ≤ 1000 ∧ (∀ a b, (a, b, 0) ∈ ls → pl a < pl b) ∧ ∀ H', Same H H' → Q .non H'
theorem ok_idle_ring (T : Txt K mg) : FnOk P w K mg base CX0 1 T.f_idle_ring T.d_idle_ring ["steps", "links"] sp_idle_ring := by
  refine T.F_idle_ring.ok sc_idle_ring (fun vs H Q E h => ?_) (fun cdv A outer s H vs Q E hr h => ?_)
  · obtain ⟨n, tl, cs, ls, pl, rfl, _⟩ := h
    rfl
  · obtain ⟨n, tl, cs, ls, pl, rfl, hl, ht, hn, hp, q⟩ := h
    have hT : SqT K H tl (cs.map V.ref) := SqT.of hl
    refine ⟨_, (pss_cons (ps_setDc (i := 2) (own := [("step", 12)]) (by rfl) sc_idle_ring.nd rfl rfl (swaps_dc rfl rfl rfl (by decide +kernel)) (pi_range1 (by rfl) T.n_range (pa_cons (pv 0) pa_nil)) (blkOk_by (by kernel_rfl)) (fun _ _ _ _ _ => (pg_name (i := 12) sc_idle_ring.nd rfl (.inl rfl))) (fun _ _ _ _ _ => pts_nil) (fun _ _ _ _ _ => (pv 12)) (fun _ _ _ _ _ => pe_bl))
      (pss_cons (ps_while PassesOwn.never (pt_val pe_bl) (pss_cons (ps_set (i := 3) sc_idle_ring.nd rfl (.inl rfl) pe_dnewK)
      (pss_cons (ps_for PassesOwn.never rfl (pi_enumT (by rfl) T.n_enumerate (pa_cons (pv 1) pa_nil)) (pg_tup rfl (pgs_cons (pg_name (i := 4) sc_idle_ring.nd rfl (.inl rfl)) (pgs_cons (pg_tup rfl (pgs_cons (pg_name (i := 5) sc_idle_ring.nd rfl (.inl rfl)) (pgs_cons (pg_name (i := 6) sc_idle_ring.nd rfl (.inl rfl)) (pgs_cons (pg_name (i := 7) sc_idle_ring.nd rfl (.inl rfl)) (pgs_cons (pg_name (i := 8) sc_idle_ring.nd rfl (.inl rfl)) (pgs_cons (pg_name (i := 9) sc_idle_ring.nd rfl (.inl rfl)) pgs_nil)))))) pgs_nil))) (pss_one (ps_if (PW.pt (pw_and (pt_cmpR op_eq (pv 7) pe_int (nomark _)) (pw_and (pt_cmp (pc_din (hu_of hr) (pv 5) (pv 2))) (pw_and (pt_cmp (pc_din (hu_of hr) (pv 6) (pv 2))) (pw_and1 (pt_cmp (pc_dnotin (hu_of hr) (pv 5) (pv 3)))))))) (pss_one (ps_dput (hu_of hr) (pv 3) (pv 5) (pv 4) rfl)) pss_nil)))
      (pss_cons (ps_if (pt_cmpR op_eq (pe_callB call_lenD (by rfl) T.n_len (by decide +kernel) (pa_cons (pv 3) pa_nil)) (pe_callB call_lenD (by rfl) T.n_len (by decide +kernel) (pa_cons (pv 2) pa_nil)) (nomark _)) (pss_one ps_break) pss_nil)
      (pss_one (ps_set (i := 2) sc_idle_ring.nd rfl (.inl rfl) (pv 3)))))))
      (pss_cons (ps_if (pt_cmpR op_eq (pe_callB call_lenD (by rfl) T.n_len (by decide +kernel) (pa_cons (pv 2) pa_nil)) pe_int (nomark _)) (pss_one (ps_ret pe_non)) pss_nil)
      pss_never))), ?_⟩
    -- left = {step: True for step in range(steps)}
    refine rd_set ?_
    refine ⟨_, rfl, (n : Int), rfl, by omega, by omega, fun D nD => dcK_it walk_range (fun i H' => Same H H' ∧ ∃ kvs, H' D = some (.dK kvs) ∧ kvs.map (·.1) = (List.range i).map kk) ⟨Same.new nD, [], upd_same, rfl⟩ (fun _ _ _ _ => trivial) (fun i x H1 H2 hi h1 hy => ?_) fun H1 h1 => ?_⟩
    · obtain ⟨rfl, rfl⟩ := hy
      obtain ⟨s1, kvs, hD, hk⟩ := h1
      have hi' : i < n := by omega
      have e0 : (0 : Int) + (i : Int) = (i : Int) := by omega
      have len := keys_len hk
      rw [List.length_range] at len
      refine ⟨rfl, _, rfl, kvs, kk i, ?_, hD, small (by omega), fun c o e => ?_, _, upd_same, ?_⟩
      · show V.int (0 + (i : Int)) = V.int (i : Int)
        rw [e0]
      · rw [upd_ne (ne_of_none e nD)]
        exact s1 _ _ e
      · have fresh : valV kvs (kk i) = none := valV_no fun m => by
          rw [hk] at m
          obtain ⟨b, hb, e⟩ := List.mem_map.mp m
          have := kk_inj e
          have := List.mem_range.mp hb
          omega
        rw [putK_new _ fresh, List.map_append, hk, List.range_succ, List.map_append]
        rfl
    · obtain ⟨s1, kvs0, hD, hk0⟩ := h1
      have e1 : ((n : Int)).toNat = n := by omega
      rw [e1] at hk0
      -- while True
      refine rd_seq ⟨fun m σ H' => ∃ (L : Addr) (ks : List Nat) (kvs : List (Key × V)) (y3 y4 y5 y6 y7 y8 y9 y10 y11 y12 : Option V), σ = [some (VI n), some (.ref tl), some (.ref L), y3, y4, y5, y6, y7, y8, y9, y10, y11, y12] ∧ Same H H' ∧ H' L = some (.dK kvs) ∧
        kvs.map (·.1) = ks.map kk ∧ ks.Nodup ∧ (∀ a ∈ ks, a < n) ∧ m = ks.length, ⟨_, D, List.range n, kvs0, _, _, _, _, _, _, _, _, _, _, rfl, s1, hD, hk0, List.nodup_range, fun a ha => List.mem_range.mp ha, rfl⟩, ?_⟩
      rintro m σ H2 ⟨L, ks, kvs, y3, y4, y5, y6, y7, y8, y9, y10, y11, y12, rfl, s2, hL, hk, hnd, hlt, rfl⟩
      have hks : ks.length ≤ n := by
        have := hnd.length_le_of_subset (l₂ := List.range n) fun a ha => List.mem_range.mpr (hlt a ha)
        rwa [List.length_range] at this
      refine ⟨true, rfl, iteT ⟨fun σ' H' => ∃ (L : Addr) (us : List Nat) (kvs : List (Key × V)) (y3 y4 y5 y6 y7 y8 y9 y10 y11 y12 : Option V), σ' = [some (VI n), some (.ref tl), some (.ref L), y3, y4, y5, y6, y7, y8, y9, y10, y11, y12] ∧ Same H H' ∧ H' L = some (.dK kvs) ∧
        kvs.map (·.1) = us.map kk ∧ us.Nodup ∧ (∀ a ∈ us, a < n) ∧ us.length < ks.length, ?_, ?_⟩⟩
      · rintro σ' H' ⟨L', us, kvs', z3, z4, z5, z6, z7, z8, z9, z10, z11, z12, e, s3, h3, k3, n3, l3, lt⟩
        exact ⟨us.length, lt, L', us, kvs', z3, z4, z5, z6, z7, z8, z9, z10, z11, z12, e, s3, h3, k3, n3, l3, rfl⟩
      -- last = {}
      refine rd_set fun La nLa => ?_
      have hLLa : L ≠ La := ne_of_none hL nLa
      -- for number, (..) in enumerate(links)
      refine rd_seq (rd_for ⟨_, rfl, tl, _, rfl, Same.sqT (Same.trans s2 (Same.new nLa)) hT, ?_⟩)
      refine for_it (walk_enumT (xs := cs.map V.ref)) (fun i σ H' => ∃ (us : List Nat) (kv2 : List (Key × V)) (y4 y5 y6 y7 y8 y9 y10 y11 y12 : Option V), σ = [some (VI n), some (.ref tl), some (.ref L), some (.ref La), y4, y5, y6, y7, y8, y9, y10, y11, y12] ∧ Same H2 H' ∧ H' La = some (.dK kv2) ∧
        kv2.map (·.1) = us.map kk ∧ us.Nodup ∧ ∀ a ∈ us, a ∈ ks ∧ ∃ b ∈ ks, (a, b, 0) ∈ ls) ⟨[], [], _, _, _, _, _, _, _, _, _, rfl, Same.new nLa, upd_same, rfl, List.nodup_nil, fun a h => by simp at h⟩ ?_ ?_ ?_
      · rintro i σ H3 _ ⟨us, kv2, z4, z5, z6, z7, z8, z9, z10, z11, z12, rfl, s3, _⟩
        exact Same.sqT (Same.trans s2 s3) hT
      · rintro i v σ H3 H4 hi ⟨us, kv2, z4, z5, z6, z7, z8, z9, z10, z11, z12, rfl, s3, hLa, hk2, hnd2, hin2⟩ ⟨T1, x, y, rfl, nT, rfl, hx, hy⟩
        cases hx
        obtain ⟨b, rfl, hb⟩ := map_get hy
        obtain ⟨l, hll, x5, y5', h5⟩ := pget ht hb
        have s4 : Same H3 (upd H3 T1 (.tup [.int (i : Nat), .ref b])) := Same.new nT
        have s34 := Same.trans s3 s4
        have h5' := s34 _ _ (s2 _ _ h5)
        have hL' := s34 _ _ hL
        have hLa' := s4 _ _ hLa
        refine ⟨T1, _, rfl, SqT.of upd_same, rfl, _, _, rfl, _, _, rfl, b, _, rfl, SqT.of h5', rfl, _, _, rfl, _, _, rfl, _, _, rfl, _, _, rfl, _, _, rfl, rfl, rfl, ?_⟩
        -- what stands where the test fails
        have stay : ∃ (us : List Nat) (kv2 : List (Key × V)) (y4 y5 y6 y7 y8 y9 y10 y11 y12 : Option V), ([some (VI n), some (.ref tl), some (.ref L), some (.ref La), some (.int (i : Nat)), some (VI l.1), some (VI l.2.1), some (VI l.2.2), some x5, some y5', z10, z11, z12] : L2.St) =
            [some (VI n), some (.ref tl), some (.ref L), some (.ref La), y4, y5, y6, y7, y8, y9, y10, y11, y12] ∧ Same H2 (upd H3 T1 (.tup [.int (i : Nat), .ref b])) ∧ (upd H3 T1 (.tup [.int (i : Nat), .ref b])) La = some (.dK kv2) ∧
            kv2.map (·.1) = us.map kk ∧ us.Nodup ∧ ∀ a ∈ us, a ∈ ks ∧ ∃ b ∈ ks, (a, b, 0) ∈ ls := ⟨us, kv2, _, _, _, _, _, _, _, _, _, rfl, s34, hLa', hk2, hnd2, hin2⟩
        refine ⟨_, rfl, rfl, _, rfl, if2 (fun h0 => ?_) fun _ => stay⟩
        refine ⟨_, rfl, _, rfl, L, _, rfl, DGet.k (k := kk l.1) hL', _, rfl, ifB (fun h1 => ?_) fun _ => stay⟩
        refine ⟨_, rfl, _, rfl, L, _, rfl, DGet.k (k := kk l.2.1) hL', _, rfl, ifB (fun h2 => ?_) fun _ => stay⟩
        refine ⟨_, rfl, _, rfl, La, _, rfl, DGet.k (k := kk l.1) hLa', _, rfl, ?_⟩
        have inks : l.1 ∈ ks := (mem_kk hk l.1).mp h1
        have inks2 : l.2.1 ∈ ks := (mem_kk hk l.2.1).mp h2
        have hus : us.length ≤ ks.length := hnd2.length_le_of_subset fun a ha => (hin2 a ha).1
        have lk2 := keys_len hk2
        have hz : kv2.length < sizeLine := small (by omega)
        have m0 : (l.1, l.2.1, 0) ∈ ls := by
          have e0 : l.2.2 = 0 := by
            have : VI l.2.2 = VI 0 := h0
            exact VI_eq.mp this
          have := List.mem_of_getElem? hll
          rw [← e0]
          exact this
        refine ifB (fun h3 => ?_) fun _ => stay
        have hno : valV kv2 (kk l.1) = none := by
          cases e : valV kv2 (kk l.1) with
          | none => rfl
          | some v =>
            rw [e] at h3
            cases h3
        refine ⟨_, rfl, _, rfl, _, rfl, La, _, rfl, DPut.k (k := kk l.1) hLa' hz, us ++ [l.1], _, _, _, _, _, _, _, _, _, _, rfl, fun c o e => ?_, upd_same, ?_, ?_, fun a ha => ?_⟩
        · rw [upd_ne (ne_of_none e nLa)]
          exact s34 _ _ e
        · rw [putK_new _ hno, List.map_append, hk2, List.map_append]
          rfl
        · have nin : l.1 ∉ us := fun m => by
            have := (mem_kk hk2 l.1).mpr m
            rw [hno] at this
            cases this
          exact nd_snoc hnd2 nin
        · rcases List.mem_append.mp ha with ha | ha
          · exact hin2 a ha
          · have ea : a = l.1 := by simpa using ha
            subst ea
            exact ⟨inks, l.2.1, inks2, m0⟩
      · rintro σ H3 ⟨us, kv2, z4, z5, z6, z7, z8, z9, z10, z11, z12, rfl, s3, hLa, hk2, hnd2, hin2⟩
        have l1 := keys_len hk
        have l2 := keys_len hk2
        have hus : us.length ≤ ks.length := hnd2.length_le_of_subset fun a ha => (hin2 a ha).1
        have hL3 := s3 _ _ hL
        refine ⟨_, rfl, La, _, rfl, hLa, _, rfl, L, _, rfl, hL3, rfl, _, rfl, if2 (fun he => ?_) fun he => ?_⟩
        · -- break: nothing is left
          have elen : kv2.length = kvs.length := VI_eq.mp he
          have sub := all_of_len hnd2 (fun a ha => (hin2 a ha).1) (show ks.length ≤ us.length by omega)
          have nil := none_left pl (ks := ks) fun a ha => by
            obtain ⟨_, b, hb, m⟩ := hin2 a (sub a ha)
            exact ⟨b, hb, hp a b m⟩
          have l0 : kvs.length = 0 := by rw [l1, nil]; rfl
          refine ⟨_, rfl, L, _, rfl, hL3, rfl, _, rfl, ifT (VI_eq.mpr l0) ?_⟩
          exact q H3 (Same.trans s2 s3)
        · -- left = last
          have nlen : kv2.length ≠ kvs.length := fun z => he (VI_eq.mpr z)
          exact ⟨_, rfl, La, us, kv2, _, _, _, _, _, _, _, _, _, _, rfl, Same.trans s2 s3, hLa, hk2, hnd2, fun a ha => hlt a (hin2 a ha).1, by omega⟩
end
end K24

/-! Program: keep, __init__. -/
namespace K24
open PySem PySem.Spec PyProof.Rows L2
def RowOk (m : Nat) (H : Hp) (r : Addr) : Prop := ∃ ts : List Addr, H r = some (.lst (ts.map V.ref)) ∧ ts.length ≤ m ∧ ∀ t ∈ ts, ∃ i j : Int, H t = some (.tup [.int i, .int j])
theorem putF_len {f : Str} {v : V} {fs : List (Str × V)} {k : Nat} (h : fs.length ≤ k) : (putF f v fs).length ≤ k + 1 := by
  have := length_putF f v fs
  omega
theorem lk_same {f : Str} {v : V} {fs : List (Str × V)} : (putF f v fs).lookup f = some v := by rw [lookup_putF, if_pos rfl]
theorem lk_ne {f g : Str} {v : V} {fs : List (Str × V)} (h : ¬ g = f) : (putF f v fs).lookup g = fs.lookup g := by rw [lookup_putF, if_neg h]
section
variable {P : Program} {w : World} {K : PySem.W.Frag} {mg : Str → Option Value} {base : Heap}
def sp_keep (C : Addr) : Sp := fun vs H Q _ => ∃ (x dx : Addr) (n : Nat) (tn tb : Addr) (as bs : List Addr) (ls ms : List Lk) (pl : Nat → Nat), vs = [.ref x, VI n, .ref tn, .ref tb] ∧ H x = some (.ins C dx []) ∧ H tn = some (.tup (as.map V.ref)) ∧ H tb = some (.tup (bs.map V.ref)) ∧
  Trs H as ls ∧ Trs H bs ms ∧ ls.length ≤ 40 ∧ ms.length ≤ 40 ∧ n ≤ 1000 ∧ (∀ l ∈ ls, l.1 < n) ∧ (∀ a b, (a, b, 0) ∈ ls ++ ms → pl a < pl b) ∧
  ∀ H' tl cs fs, Nx [x] H H' → H' x = some (.ins C dx fs) → fs.lookup ("steps" : Str) = some (VI n) → fs.lookup ("kept_links" : Str) = some (V.ref tl) → H' tl = some (.tup (cs.map V.ref)) → Trs5 H' cs (ls ++ ms) → Q .non H'
theorem ok_keep (T : Txt K mg) : FnOk P w K mg base CX0 2 T.f_keep T.d_keep ["self", "steps", "needs", "befores"] (sp_keep T.C) := by
  refine T.F_keep.ok sc_keep (fun vs H Q E h => ?_) (fun cdv A outer s H vs Q E hr h => ?_)
  · obtain ⟨x, dx, n, tn, tb, as, bs, ls, ms, pl, rfl, _⟩ := h
    rfl
  · obtain ⟨x, dx, n, tn, tb, as, bs, ls, ms, pl, rfl, hx, hn, hb, ht, hu, l1, l2, n12, hin, hp, q⟩ := h
    refine ⟨_, (pss_cons (ps_set (i := 4) sc_keep.nd rfl (.inl rfl) (pe_call (ok_links_of T) (hr.mono (by decide)) (by rfl) T.m_links_of T.F_links_of.kp (b_links_of T) .nil pass0 (pa_cons (pv 2) (pa_cons (pv 3) pa_nil))))
      (pss_cons (ps_set (i := 5) sc_keep.nd rfl (.inl rfl) (pe_call (ok_idle_ring T) (hr.mono (by decide)) (by rfl) T.m_idle_ring T.F_idle_ring.kp (b_idle_ring T) .nil pass0 (pa_cons (pv 1) (pa_cons (pv 4) pa_nil))))
      (pss_cons (ps_if (pt_cmpR op_notN (pv 5) pe_non (nomark _)) (pss_one ps_never) pss_nil)
      (pss_cons (ps_fld (pv 0) (pv 1) rfl)
      (pss_cons (ps_fld (pv 0) (pv 2) rfl)
      (pss_cons (ps_fld (pv 0) (pv 3) rfl)
      (pss_cons (ps_fld (pv 0) (pv 4) rfl)
      (pss_cons (ps_set (i := 6) sc_keep.nd rfl (.inr rfl) (pe_lc (own := [("step", 10)]) (g := (gName 10)) (te := (tLst tNil)) (by rfl) sc_keep.nd (pi_range1 (by rfl) T.n_range (pa_cons (pv 1) pa_nil)) (blkOk_by (by kernel_rfl)) (fun _ _ _ _ _ => (pg_name (i := 10) sc_keep.nd rfl (.inl rfl))) (fun _ _ _ _ _ => pts_nil) (fun _ _ _ _ _ => (pe_lst pa_nil))))
      (pss_cons (ps_for PassesOwn.never rfl (pi_tup (pv 2)) (pg_tup rfl (pgs_cons (pg_name (i := 7) sc_keep.nd rfl (.inl rfl)) (pgs_cons (pg_name (i := 8) sc_keep.nd rfl (.inl rfl)) (pgs_cons (pg_name (i := 9) sc_keep.nd rfl (.inl rfl)) pgs_nil)))) (pss_one (ps_expr (pe_bm PySem.F.plainAttrs_list PySem.F.slot_list_append PySem.F.type_list_append mt_append (pe_ix ix_list (pv 6) (pv 7) (fun _ _ => rfl)) (pa_cons (pe_tup (pa_cons (pv 8) (pa_cons (pv 9) pa_nil))) pa_nil)))))
      (pss_cons (ps_fld (pv 0) (pe_lc (own := [("row", 11)]) (g := (gName 11)) (te := (tCB (rTupOf K) (tCons (tCB (rSortedP K) (tCons (tVar 11) tNil)) tNil))) (by rfl) sc_keep.nd (pi_list (pv 6)) (blkOk_by (by kernel_rfl)) (fun _ _ _ _ _ => (pg_name (i := 11) sc_keep.nd rfl (.inl rfl))) (fun _ _ _ _ _ => pts_nil) (fun _ _ _ _ _ => (pe_callTy call_tuple_of (by rfl) T.n_tuple (by decide +kernel) (pa_cons (pe_callB cr_sortedP (by rfl) T.n_sorted (by decide +kernel) (pa_cons (pv 11) pa_nil)) pa_nil)))) rfl)
      (pss_one (ps_fld (pv 0) (pe_callTy call_tuple_of (by rfl) T.n_tuple (by decide +kernel) (pa_cons (pe_lc (own := [("step", 10)]) (g := (gName 10)) (te := (tVar 10)) (tt := (tTest (tOp (rI0 fun i j => .bl (decide (j < i))) (tCB (rLenS K) (tCons (tOp (rIxL K) (tVar 6) (tVar 10)) tNil)) (tC (.int 0))))) (by rfl) sc_keep.nd (pi_range1 (by rfl) T.n_range (pa_cons (pv 1) pa_nil)) (blkOk_by (by kernel_rfl)) (fun _ _ _ _ _ => (pg_name (i := 10) sc_keep.nd rfl (.inl rfl))) (fun _ _ _ _ _ => pts_one (pt_cmpR op_gt (pe_callB call_len_seq (by rfl) T.n_len (by decide +kernel) (pa_cons (pe_ix ix_list (pv 6) (pv 10) (fun _ _ => rfl)) pa_nil)) pe_int (nomark _))) (fun _ _ _ _ _ => (pv 10))) pa_nil)) rfl)))))))))))), ?_⟩
    -- links, ring
    refine rd_set ⟨_, rfl, _, rfl, tn, tb, as, bs, ls, ms, rfl, hn, hb, ht, hu, l1, l2, fun H1 tl cs s1 ntl htl hcs => ?_⟩
    refine rd_set ⟨_, rfl, _, rfl, n, tl, cs, ls ++ ms, pl, rfl, htl, hcs, n12, hp, fun H2 s2 => ?_⟩
    refine rd_seq ⟨_, rfl, rfl, _, rfl, iteNS rfl ?_⟩
    -- the four fields
    have hx2 : H2 x = some (.ins T.C dx []) := s2 _ _ (s1 _ _ hx)
    have f1 := putF_len (f := "steps") (v := VI n) (fs := []) (k := 0) (Nat.le_refl _)
    have f2 := putF_len (f := "needs") (v := .ref tn) f1
    have f3 := putF_len (f := "befores") (v := .ref tb) f2
    have f4 := putF_len (f := "kept_links") (v := .ref tl) f3
    refine rd_seq ⟨_, rfl, _, rfl, x, T.C, dx, _, rfl, hx2, T.cl, T.a_steps, by decide, ?_⟩
    refine rd_seq ⟨_, rfl, _, rfl, x, T.C, dx, _, rfl, upd_same, T.cl, T.a_needs, by omega, ?_⟩
    refine rd_seq ⟨_, rfl, _, rfl, x, T.C, dx, _, rfl, upd_same, T.cl, T.a_befores, by omega, ?_⟩
    refine rd_seq ⟨_, rfl, _, rfl, x, T.C, dx, _, rfl, upd_same, T.cl, T.a_kept_links, by omega, ?_⟩
    rw [upd_upd, upd_upd, upd_upd]
    generalize efs : putF "kept_links" (V.ref tl) (putF "befores" (V.ref tb) (putF "needs" (V.ref tn) (putF "steps" (VI n) []))) = fs4 at f4 ⊢
    have k1 : fs4.lookup ("steps" : Str) = some (VI n) := by
      rw [← efs, lk_ne (by decide), lk_ne (by decide), lk_ne (by decide)]
      exact lk_same
    have k2 : fs4.lookup ("kept_links" : Str) = some (V.ref tl) := by rw [← efs]; exact lk_same
    have nx4 : Nx [x] H (upd H2 x (.ins T.C dx fs4)) := Nx.put' (Nx.of (Same.trans s1 s2)) (.inl (by simp))
    have htl4 : (upd H2 x (.ins T.C dx fs4)) tl = some (.tup (cs.map V.ref)) := by
      rw [upd_ne (ne_of (s2 _ _ htl) hx2 fun z => nomatch z)]
      exact s2 _ _ htl
    have tup4 : ∀ b xs, H1 b = some (.tup xs) → (upd H2 x (.ins T.C dx fs4)) b = some (.tup xs) := fun b xs e => by
      rw [upd_ne (ne_of (s2 _ _ e) hx2 fun z => nomatch z)]
      exact s2 _ _ e
    have hcs4 := hcs.keep tup4
    have tup0 : ∀ b xs, H b = some (.tup xs) → (upd H2 x (.ins T.C dx fs4)) b = some (.tup xs) := fun b xs e => tup4 b xs (s1 _ _ e)
    have hx4 : (upd H2 x (.ins T.C dx fs4)) x = some (.ins T.C dx fs4) := upd_same
    generalize (upd H2 x (.ins T.C dx fs4)) = H4 at nx4 htl4 hcs4 tup0 hx4 ⊢
    -- rows
    dsimp only
    refine rd_set ?_
    refine ⟨_, rfl, (n : Int), rfl, by omega, by omega, fun R nR => lc_it walk_range (fun i H' => Same H4 H' ∧ ∃ rs : List Addr, H' R = some (.lst (rs.map V.ref)) ∧ rs.length = i ∧ ∀ r ∈ rs, r ≠ R ∧ H4 r = none ∧ RowOk 0 H' r)
      ⟨Same.new nR, [], upd_same, rfl, fun r h => by simp at h⟩ (fun _ _ _ _ => trivial) (fun i v Ha Hb hi ha hy => ?_) fun H5 h5 => ?_⟩
    · obtain ⟨rfl, rfl⟩ := hy
      obtain ⟨sa, rs, hR, hlen, hrs⟩ := ha
      refine ⟨rfl, Nat.zero_le _, fun p np => ?_⟩
      have npR : R ≠ p := ne_of_none hR np
      refine ⟨_, Same.new np _ _ hR, ?_, fun c o e => ?_, rs ++ [p], ?_, ?_, fun r hr' => ?_⟩
      · rw [List.length_map]
        exact small (by omega)
      · rw [upd_ne (ne_of_none e nR)]
        exact Same.new np _ _ (sa _ _ e)
      · rw [upd_same, List.map_append]
        rfl
      · rw [List.length_append, hlen]
        rfl
      · rcases List.mem_append.mp hr' with m | m
        · obtain ⟨g1, g2, ts, g3, g4, g5⟩ := hrs r m
          refine ⟨g1, g2, ts, ?_, g4, fun t mt => ?_⟩
          · rw [upd_ne g1]
            exact Same.new np _ _ g3
          · obtain ⟨i1, j1, e1⟩ := g5 t mt
            exact ⟨i1, j1, by rw [upd_ne (lt_ne e1 hR)]; exact Same.new np _ _ e1⟩
        · have er : r = p := by simpa using m
          subst er
          refine ⟨npR.symm, Same.none sa np, [], ?_, Nat.le_refl _, fun t mt => by simp at mt⟩
          rw [upd_ne npR.symm]
          exact upd_same
    · obtain ⟨s5, rs, hR, hlen, hrs⟩ := h5
      have hlen' : rs.length = n := by rw [hlen]; omega
      -- for one, other, rounds in needs
      have hT : ∀ {H' : Hp}, Same H4 H' → SqT K H' tn (as.map V.ref) := fun s => SqT.of (s _ _ (tup0 _ _ hn))
      refine rd_seq (rd_for ?_)
      refine ⟨_, rfl, tn, rfl, ⟨_, hT s5⟩, ?_⟩
      refine for_it (walk_tup (xs := as.map V.ref)) (fun i σ H' => ∃ y7 y8 y9 y10 y11 : Option V, σ = [some (.ref x), some (VI n), some (.ref tn), some (.ref tb), some (.ref tl), some .non, some (.ref R), y7, y8, y9, y10, y11] ∧ Same H4 H' ∧ H' R = some (.lst (rs.map V.ref)) ∧ ∀ r ∈ rs, r ≠ R ∧ H4 r = none ∧ RowOk i H' r)
        ⟨_, _, _, _, _, rfl, s5, hR, hrs⟩ (fun i σ H' _ h => ?_) (fun i v σ Ha Hb hi ha hy => ?_) (fun σ H6 h6 => ?_)
      · obtain ⟨_, _, _, _, _, _, sa, _⟩ := h
        exact hT sa
      · obtain ⟨rfl, hv⟩ := hy
        obtain ⟨y7, y8, y9, y10, y11, rfl, sa, hRa, hra⟩ := ha
        obtain ⟨b, rfl, hb'⟩ := map_get hv
        obtain ⟨l, hl, htr⟩ := pget ht hb'
        have htr' := sa _ _ (tup0 _ _ htr)
        have hln := hin l (List.mem_of_getElem? hl)
        obtain ⟨r, hr'⟩ : ∃ r, rs[l.1]? = some r := ⟨_, List.getElem?_eq_getElem (by omega)⟩
        obtain ⟨g1, g2, ts, g3, g4, g5⟩ := hra r (List.mem_of_getElem? hr')
        have hget : (rs.map V.ref)[l.1]? = some (.ref r) := by rw [List.getElem?_map, hr']; rfl
        have hil : i < ls.length := (List.getElem?_eq_some_iff.mp hl).1
        refine ⟨b, _, rfl, SqT.of htr', rfl, _, _, rfl, _, _, rfl, _, _, rfl, rfl, ?_⟩
        refine ⟨_, rfl, _, rfl, R, _, _, _, rfl, rfl, SqL.of hRa, at_ rfl hget, .inl ⟨rfl, _, SqL.of g3⟩, _, rfl, _, rfl, by show 2 ≤ sizeLine; decide, fun p np => ?_⟩
        have sp := Same.new (o := .tup [VI l.2.1, VI l.2.2]) np
        refine ⟨r, _, _, rfl, rfl, sp _ _ g3, ?_, _, _, _, _, _, rfl, fun c o e => ?_, ?_, fun r2 hr2 => ?_⟩
        · rw [List.length_map]
          exact small (by omega)
        · rw [upd_ne (ne_of_none e g2)]
          exact sp _ _ (sa _ _ e)
        · rw [upd_ne g1.symm]
          exact sp _ _ hRa
        · obtain ⟨k1', k2', us, k3, k4, k5⟩ := hra r2 hr2
          have tupk : ∀ t, (∃ i j : Int, Hb t = some (.tup [.int i, .int j])) → ∃ i j : Int, (upd (upd Hb p (.tup [VI l.2.1, VI l.2.2])) r (.lst (ts.map V.ref ++ [.ref p]))) t = some (.tup [.int i, .int j]) := fun t ⟨i1, j1, e1⟩ => ⟨i1, j1, by
            rw [upd_ne (lt_ne e1 g3)]
            exact sp _ _ e1⟩
          refine ⟨k1', k2', ?_⟩
          by_cases er : r2 = r
          · subst er
            refine ⟨ts ++ [p], ?_, ?_, fun t mt => ?_⟩
            · rw [upd_same, List.map_append]
              rfl
            · rw [List.length_append]
              show ts.length + 1 ≤ i + 1
              omega
            · rcases List.mem_append.mp mt with m | m
              · exact tupk t (g5 t m)
              · have et : t = p := by simpa using m
                subst et
                refine ⟨(l.2.1 : Int), (l.2.2 : Int), ?_⟩
                rw [upd_ne (fun z => by rw [z, g3] at np; cases np)]
                exact upd_same
          · refine ⟨us, ?_, by omega, fun t mt => tupk t (k5 t mt)⟩
            rw [upd_ne er]
            exact sp _ _ k3
      · obtain ⟨y7, y8, y9, y10, y11, rfl, s6, hR6, hr6⟩ := h6
        -- self.kept_readers
        refine rd_seq ⟨_, rfl, R, rfl, ⟨_, SqL.of hR6⟩, fun D nD => lc_it (walk_list (xs := rs.map V.ref)) (fun i H' => Same H6 H' ∧ ∃ zs, H' D = some (.lst zs) ∧ zs.length = i) ⟨Same.new nD, [], upd_same, rfl⟩ (fun i H' _ h => SqL.of (h.1 _ _ hR6)) (fun i v Ha Hb hi ha hy => ?_) fun H7 h7 => ?_⟩
        · obtain ⟨rfl, hv⟩ := hy
          obtain ⟨sa, zs, hD, hz⟩ := ha
          obtain ⟨r, rfl, hr'⟩ := map_get hv
          obtain ⟨_, _, ts, g3, g4, g5⟩ := hr6 r (List.mem_of_getElem? hr')
          have hi' : i < n := by
            have := (List.getElem?_eq_some_iff.mp hr').1
            omega
          refine ⟨rfl, _, rfl, r, _, rfl, SqL.of (sa _ _ g3), fun v mv => ?_, fun ys p _ np => ⟨p, _, rfl, .inl ⟨SqL.of upd_same, fun t nt => ⟨zs, ?_, ?_, fun c o e => ?_, _, upd_same, ?_⟩⟩⟩⟩
          · obtain ⟨t, mt, rfl⟩ := List.mem_map.mp mv
            obtain ⟨i1, j1, e1⟩ := g5 t mt
            exact ⟨t, i1, j1, rfl, sa _ _ e1⟩
          · exact Same.new nt _ _ (Same.new np _ _ hD)
          · exact small (by omega)
          · rw [upd_ne (ne_of_none e nD)]
            exact Same.new nt _ _ (Same.new np _ _ (sa _ _ e))
          · rw [List.length_append, hz]
            rfl
        · obtain ⟨s7, zs, hD, hz⟩ := h7
          have hx7 : H7 x = some (.ins T.C dx fs4) := s7 _ _ (s6 _ _ hx4)
          refine ⟨_, rfl, x, T.C, dx, _, rfl, hx7, T.cl, T.a_kept_readers, by omega, ?_⟩
          have f5 := putF_len (f := "kept_readers") (v := .ref D) f4
          -- self.kept_makers
          have keep8 : ∀ b o, b ≠ x → H7 b = some o → (upd H7 x (.ins T.C dx (putF "kept_readers" (.ref D) fs4))) b = some o := fun b o n e => by rw [upd_ne n]; exact e
          have lx : ∀ {b : Addr} {ys : List V}, H7 b = some (.lst ys) → b ≠ x := fun e => ne_of e hx7 fun z => nomatch z
          have hR8 := keep8 _ _ (lx (s7 _ _ hR6)) (s7 _ _ hR6)
          have hx8 : (upd H7 x (.ins T.C dx (putF "kept_readers" (.ref D) fs4))) x = _ := upd_same
          have row8 : ∀ r ∈ rs, ∃ ts : List Addr, (upd H7 x (.ins T.C dx (putF "kept_readers" (.ref D) fs4))) r = some (.lst (ts.map V.ref)) := fun r m => by
            obtain ⟨_, _, ts, g3, _⟩ := hr6 r m
            exact ⟨ts, keep8 _ _ (lx (s7 _ _ g3)) (s7 _ _ g3)⟩
          have nx8 : Nx [x] H4 (upd H7 x (.ins T.C dx (putF "kept_readers" (.ref D) fs4))) := Nx.put' (Nx.of (Same.trans s6 s7)) (.inl (by simp))
          generalize (upd H7 x (.ins T.C dx (putF "kept_readers" (.ref D) fs4))) = H8 at hR8 hx8 row8 nx8 ⊢
          refine ⟨_, rfl, (n : Int), rfl, by omega, by omega, fun D2 nD2 => lc_it walk_range (fun i H' => Same H8 H' ∧ ∃ zs, H' D2 = some (.lst zs) ∧ zs.length ≤ i) ⟨Same.new nD2, [], upd_same, Nat.le_refl _⟩ (fun _ _ _ _ => trivial) (fun i v Ha Hb hi ha hy => ?_) fun H9 h9 => ?_⟩
          · obtain ⟨rfl, rfl⟩ := hy
            obtain ⟨sa, zs, hD2, hz⟩ := ha
            have hi' : i < n := by omega
            obtain ⟨r, hr'⟩ : ∃ r, rs[i]? = some r := ⟨_, List.getElem?_eq_getElem (by omega)⟩
            obtain ⟨ts, g3⟩ := row8 r (List.mem_of_getElem? hr')
            have hget : (rs.map V.ref)[i]? = some (.ref r) := by rw [List.getElem?_map, hr']; rfl
            refine ⟨rfl, _, rfl, _, rfl, R, _, _, _, rfl, rfl, SqL.of (sa _ _ hR8), at_ (j := i) (by omega) hget, r, _, rfl, .inl (SqL.of (sa _ _ g3)), _, _, rfl, rfl, _, rfl, if2 (fun _ => ?_) fun _ => ?_⟩
            · refine ⟨_, rfl, zs, hD2, small (by omega), fun c o e => ?_, _, upd_same, ?_⟩
              · rw [upd_ne (ne_of_none e nD2)]
                exact sa _ _ e
              · rw [List.length_append]
                show zs.length + 1 ≤ i + 1
                omega
            · exact ⟨sa, zs, hD2, by omega⟩
          · obtain ⟨s9, zs2, hD2, hz2⟩ := h9
            refine ⟨D2, _, rfl, .inl ⟨SqL.of hD2, fun t nt => ?_⟩⟩
            have hx9 := Same.new (o := .tup zs2) nt _ _ (s9 _ _ hx8)
            refine ⟨_, rfl, x, T.C, dx, _, rfl, hx9, T.cl, T.a_kept_makers, by omega, ?_⟩
            have nx9 : Nx [x] H (upd (upd H9 t (.tup zs2)) x (.ins T.C dx (putF "kept_makers" (.ref t) (putF "kept_readers" (.ref D) fs4)))) :=
              Nx.put' (Nx.trans (Nx.trans nx4 nx8) (Nx.of (Same.trans s9 (Same.new nt)))) (.inl (by simp))
            have tup9 : ∀ b xs, H4 b = some (.tup xs) → (upd (upd H9 t (.tup zs2)) x (.ins T.C dx (putF "kept_makers" (.ref t) (putF "kept_readers" (.ref D) fs4)))) b = some (.tup xs) := fun b xs e => by
              have nb : b ≠ x := ne_of e hx4 fun z => nomatch z
              rw [upd_ne nb]
              exact Same.new nt _ _ (s9 _ _ (nx8 _ _ (by simp [nb]) e))
            refine q _ tl cs _ nx9 upd_same ?_ ?_ (tup9 _ _ htl4) (hcs4.keep tup9)
            · rw [lk_ne (by decide), lk_ne (by decide)]
              exact k1
            · rw [lk_ne (by decide), lk_ne (by decide)]
              exact k2
def sp_init (C : Addr) : Sp := fun vs H Q _ => ∃ (x dx : Addr) (n : Nat) (tn tb : Addr) (as bs : List Addr) (ls ms : List Lk) (pl : Nat → Nat), vs = [.ref x, VI n, .ref tn, .ref tb] ∧ H x = some (.ins C dx []) ∧ H tn = some (.tup (as.map V.ref)) ∧ H tb = some (.tup (bs.map V.ref)) ∧
  Trs H as ls ∧ Trs H bs ms ∧ ls.length ≤ 40 ∧ ms.length ≤ 40 ∧ ls.Nodup ∧ ms.Nodup ∧ 1 ≤ n ∧ n ≤ 12 ∧ (∀ l ∈ ls ++ ms, l.1 < n ∧ l.2.1 < n ∧ l.2.2 ≤ 6) ∧ (∀ a b, (a, b, 0) ∈ ls ++ ms → pl a < pl b) ∧
  ∀ H' tl cs fs, Nx [x] H H' → H' x = some (.ins C dx fs) → fs.lookup ("steps" : Str) = some (VI n) → fs.lookup ("kept_links" : Str) = some (V.ref tl) → H' tl = some (.tup (cs.map V.ref)) → Trs5 H' cs (ls ++ ms) → Q .non H'
theorem ok_init (T : Txt K mg) : FnOk P w K mg base CX0 5 T.f_init T.d_init ["self", "steps", "needs", "befores"] (sp_init T.C) := by
  refine T.F_init.ok sc_init (fun vs H Q E h => ?_) (fun cdv A outer s H vs Q E hr h => ?_)
  · obtain ⟨x, dx, n, tn, tb, as, bs, ls, ms, pl, rfl, _⟩ := h
    rfl
  · obtain ⟨x, dx, n, tn, tb, as, bs, ls, ms, pl, rfl, hx, hn, hb, ht, hu, l1, l2, n1, n2, hn1, hn12, hin, hp, q⟩ := h
    refine ⟨_, (pss_cons (ps_if (pt_not (pt_val (pe_call (ok_is_within T) (hr.mono (by decide)) (by rfl) T.m_is_within T.F_is_within.kp (b_is_within T) .nil pass0 (pa_cons (pv 1) (pa_cons pe_int (pa_cons (pe_glob (v := .int 12) (by rfl) T.m_MOST_STEPS ⟨_, rfl⟩) pa_nil)))))) (pss_one ps_never) pss_nil)
      (pss_cons (ps_if (pt_not (pt_val (pe_call (ok_are_triples T) (hr.mono (by decide)) (by rfl) T.m_are_triples T.F_are_triples.kp (b_are_triples T) .nil pass0 (pa_cons (pv 2) (pa_cons (pv 1) pa_nil))))) (pss_one ps_never) pss_nil)
      (pss_cons (ps_if (pt_not (pt_val (pe_call (ok_are_triples T) (hr.mono (by decide)) (by rfl) T.m_are_triples T.F_are_triples.kp (b_are_triples T) .nil pass0 (pa_cons (pv 3) (pa_cons (pv 1) pa_nil))))) (pss_one ps_never) pss_nil)
      (pss_one (ps_expr (pe_meth (pl := _) (pv 0) T.cl T.me_keep (ok_keep T) (hr.mono (by decide)) (b_keep T) .nil pass0 (pa_cons (pv 1) (pa_cons (pv 2) (pa_cons (pv 3) pa_nil))))))))), ?_⟩
    refine rd_seq ⟨_, rfl, _, _, _, rfl, by omega, by omega, true, rfl, iteF ?_⟩
    refine rd_seq ⟨_, rfl, _, rfl, tn, as, ls, n, rfl, hn, ht, l1, n1, fun l m => hin l (List.mem_append_left _ m), fun H1 s1 => ⟨true, rfl, iteF ?_⟩⟩
    refine rd_seq ⟨_, rfl, _, rfl, tb, bs, ms, n, rfl, s1 _ _ hb, hu.keep fun c xs e => s1 _ _ e, l2, n2, fun l m => hin l (List.mem_append_right _ m), fun H2 s2 => ⟨true, rfl, iteF ?_⟩⟩
    have s12 := Same.trans s1 s2
    refine ⟨_, rfl, x, dx, _, rfl, s12 _ _ hx, rfl, _, rfl, _, rfl, _, rfl, x, dx, n, tn, tb, as, bs, ls, ms, pl, rfl, s12 _ _ hx, s12 _ _ hn, s12 _ _ hb, ht.keep fun c xs e => s12 _ _ e, hu.keep fun c xs e => s12 _ _ e, l1, l2, by omega,
      fun l m => (hin l (List.mem_append_left _ m)).1, hp, fun H' tl cs fs nx h1 h2 h3 h4 h5 => ?_⟩
    exact q H' tl cs fs (Nx.trans (Nx.of s12) nx) h1 h2 h3 h4 h5
end
end K24

/-! is_step, check_step, is_doing, check_doing, lowered. -/
namespace K24
open PySem PySem.Spec PyProof.Rows L2
/-- a program with so many steps and these links -/
def PrOk (C : Addr) (H : Hp) (p : Addr) (n : Nat) (ls : List Lk) : Prop := ∃ (dx tl : Addr) (fs : List (Str × V)) (cs : List Addr), H p = some (.ins C dx fs) ∧ fs.lookup ("steps" : Str) = some (VI n) ∧ fs.lookup ("kept_links" : Str) = some (V.ref tl) ∧ H tl = some (.tup (cs.map V.ref)) ∧ Trs5 H cs ls
theorem PrOk.same {C : Addr} {H H' : Hp} {p : Addr} {n : Nat} {ls : List Lk} (h : PrOk C H p n ls) (s : Same H H') : PrOk C H' p n ls :=
  let ⟨dx, tl, fs, cs, h1, h2, h3, h4, h5⟩ := h
  ⟨dx, tl, fs, cs, s _ _ h1, h2, h3, s _ _ h4, h5.keep fun c xs e => s _ _ e⟩
/-- a doing's tuple -/
def Dg (H : Hp) (d : Addr) (s r : Nat) : Prop := H d = some (.tup [VI s, VI r])
section
variable {P : Program} {w : World} {K : PySem.W.Frag} {mg : Str → Option Value} {base : Heap}
def sp_is_step (C : Addr) : Sp := fun vs H Q _ => ∃ (p : Addr) (n k : Nat) (ls : List Lk), vs = [.ref p, VI k] ∧ PrOk C H p n ls ∧ k < n ∧ Q (.bl true) H
theorem ok_is_step (T : Txt K mg) : FnOk P w K mg base CX0 3 T.f_is_step T.d_is_step ["program", "thing"] (sp_is_step T.C) := by
  refine T.F_is_step.ok sc_is_step (fun vs H Q E h => ?_) (fun cdv A outer s H vs Q E hr h => ?_)
  · obtain ⟨p, n, k, ls, rfl, _⟩ := h
    rfl
  · obtain ⟨p, n, k, ls, rfl, ⟨dx, tl, fs, cs, h1, h2, _⟩, hk, q⟩ := h
    refine ⟨_, (pss_one (ps_ret (pe_call (ok_is_within T) (hr.mono (by decide)) (by rfl) T.m_is_within T.F_is_within.kp (b_is_within T) .nil pass0 (pa_cons (pv 1) (pa_cons pe_int (pa_cons (pe_op op_sub (pe_fld (pv 0) rfl) pe_int) pa_nil)))))), ?_⟩
    exact ⟨_, rfl, _, rfl, p, T.C, dx, fs, _, rfl, h1, T.cl, T.a_steps, h2, _, _, rfl, rfl, _, _, _, rfl, by omega, by omega, q⟩
def sp_check_step (C : Addr) : Sp := fun vs H Q _ => ∃ (p : Addr) (n k : Nat) (ls : List Lk), vs = [.ref p, VI k] ∧ PrOk C H p n ls ∧ k < n ∧ Q .non H
theorem ok_check_step (T : Txt K mg) : FnOk P w K mg base CX0 4 T.f_check_step T.d_check_step ["program", "thing"] (sp_check_step T.C) := by
  refine T.F_check_step.ok sc_check_step (fun vs H Q E h => ?_) (fun cdv A outer s H vs Q E hr h => ?_)
  · obtain ⟨p, n, k, ls, rfl, _⟩ := h
    rfl
  · obtain ⟨p, n, k, ls, rfl, hp, hk, q⟩ := h
    refine ⟨_, (pss_one (ps_if (pt_not (pt_val (pe_call (ok_is_step T) (hr.mono (by decide)) (by rfl) T.m_is_step T.F_is_step.kp (b_is_step T) .nil pass0 (pa_cons (pv 0) (pa_cons (pv 1) pa_nil))))) (pss_one ps_never) pss_nil)), ?_⟩
    exact ⟨_, rfl, _, rfl, p, n, k, ls, rfl, hp, hk, true, rfl, iteF q⟩
def sp_is_doing (C : Addr) : Sp := fun vs H Q _ => ∃ (p d : Addr) (n k r : Nat) (ls : List Lk), vs = [.ref p, .ref d] ∧ PrOk C H p n ls ∧ Dg H d k r ∧ k < n ∧ 1 ≤ r ∧ Q (.bl true) H
theorem ok_is_doing (T : Txt K mg) : FnOk P w K mg base CX0 4 T.f_is_doing T.d_is_doing ["program", "thing"] (sp_is_doing T.C) := by
  refine T.F_is_doing.ok sc_is_doing (fun vs H Q E h => ?_) (fun cdv A outer s H vs Q E hr h => ?_)
  · obtain ⟨p, d, n, k, r, ls, rfl, _⟩ := h
    rfl
  · obtain ⟨p, d, n, k, r, ls, rfl, hp, hd, hk, h1, q⟩ := h
    have hT : SqT K H d [VI k, VI r] := SqT.of hd
    refine ⟨_, (pss_one (ps_ret (pe_and (pe_call (ok_is_pair T) (hr.mono (by decide)) (by rfl) T.m_is_pair T.F_is_pair.kp (b_is_pair T) .nil pass0 (pa_cons (pv 1) pa_nil)) (pe_and (pe_call (ok_is_step T) (hr.mono (by decide)) (by rfl) T.m_is_step T.F_is_step.kp (b_is_step T) .nil pass0 (pa_cons (pv 0) (pa_cons (pe_ix ix_tup (pv 1) pe_int (fun _ _ => rfl)) pa_nil))) (pe_one (pe_call (ok_is_from T) (hr.mono (by decide)) (by rfl) T.m_is_from T.F_is_from.kp (b_is_from T) .nil pass0 (pa_cons (pe_ix ix_tup (pv 1) pe_int (fun _ _ => rfl)) (pa_cons pe_int pa_nil)))))))), ?_⟩
    refine ⟨_, rfl, d, _, _, rfl, hd, true, rfl, iteT ?_⟩
    refine ⟨_, rfl, _, rfl, d, _, _, _, rfl, rfl, hT, at_ (j := 0) rfl rfl, p, n, k, ls, rfl, hp, hk, true, rfl, iteT ?_⟩
    exact ⟨_, rfl, d, _, _, _, rfl, rfl, hT, at_ (j := 1) rfl rfl, _, _, rfl, by omega, q⟩
def sp_check_doing (C : Addr) : Sp := fun vs H Q _ => ∃ (p d : Addr) (n k r : Nat) (ls : List Lk), vs = [.ref p, .ref d] ∧ PrOk C H p n ls ∧ Dg H d k r ∧ k < n ∧ 1 ≤ r ∧ Q .non H
theorem ok_check_doing (T : Txt K mg) : FnOk P w K mg base CX0 5 T.f_check_doing T.d_check_doing ["program", "thing"] (sp_check_doing T.C) := by
  refine T.F_check_doing.ok sc_check_doing (fun vs H Q E h => ?_) (fun cdv A outer s H vs Q E hr h => ?_)
  · obtain ⟨p, d, n, k, r, ls, rfl, _⟩ := h
    rfl
  · obtain ⟨p, d, n, k, r, ls, rfl, hp, hd, hk, h1, q⟩ := h
    refine ⟨_, (pss_one (ps_if (pt_not (pt_val (pe_call (ok_is_doing T) (hr.mono (by decide)) (by rfl) T.m_is_doing T.F_is_doing.kp (b_is_doing T) .nil pass0 (pa_cons (pv 0) (pa_cons (pv 1) pa_nil))))) (pss_one ps_never) pss_nil)), ?_⟩
    exact ⟨_, rfl, _, rfl, p, d, n, k, r, ls, rfl, hp, hd, hk, h1, true, rfl, iteF q⟩
end

/-! ### a row partly renewed -/
def mix {α : Type} (zs xs : List α) (i : Nat) : List α := zs.take i ++ xs.drop i
theorem mix_zero {α : Type} (zs xs : List α) : mix zs xs 0 = xs := by simp [mix]
theorem mix_all {α : Type} {zs xs : List α} (h : zs.length = xs.length) : mix zs xs xs.length = zs := by
  unfold mix
  rw [List.drop_length, ← h, List.take_length, List.append_nil]
theorem mix_len {α : Type} {zs xs : List α} (h : zs.length = xs.length) (i : Nat) : (mix zs xs i).length = xs.length := by
  unfold mix
  rw [List.length_append, List.length_take, List.length_drop]
  omega
theorem mix_get {α : Type} {zs xs : List α} (h : zs.length = xs.length) {i : Nat} (hi : i < xs.length) : (mix zs xs i)[i]? = xs[i]? := by
  unfold mix
  rw [List.getElem?_append_right (by rw [List.length_take]; omega), List.length_take, List.getElem?_drop]
  congr 1
  omega
theorem mix_set {α : Type} {zs xs : List α} (h : zs.length = xs.length) {i : Nat} {z : α} (hz : zs[i]? = some z) : (mix zs xs i).set i z = mix zs xs (i + 1) := by
  have hi : i < zs.length := (List.getElem?_eq_some_iff.mp hz).1
  have hx : i < xs.length := by omega
  unfold mix
  rw [List.set_append_right _ _ (by rw [List.length_take]; omega), List.length_take, show i - min i zs.length = 0 by omega, List.drop_eq_getElem_cons hx, List.set_cons_zero, List.take_add_one, hz, List.append_assoc]
  rfl
theorem mix_skip {α : Type} {zs xs : List α} (h : zs.length = xs.length) {i : Nat} (hi : i < xs.length) (e : zs[i]? = xs[i]?) : mix zs xs i = mix zs xs (i + 1) := by
  have hz : zs[i]? = some (zs[i]'(by omega)) := List.getElem?_eq_getElem (by omega)
  rw [← mix_set h hz]
  refine List.ext_getElem? fun j => ?_
  rw [List.getElem?_set]
  by_cases q : i = j
  · subst q
    rw [if_pos rfl, if_pos (by rw [mix_len h]; exact hi), mix_get h hi, ← e, hz]
  · rw [if_neg q]
theorem mix_self {α : Type} (xs : List α) (i : Nat) : mix xs xs i = xs := List.take_append_drop i xs
theorem ixN_at {n i : Nat} (h : i < n) : ixN n (i : Int) = some i := by
  unfold ixN
  rw [if_pos (by omega), if_pos (by omega)]
  congr 1
/-- the row behind lowered -/
def lowRow (xs ys : List (Option Nat)) (s : Nat) : List (Option Nat) := List.zipWith (fun x y => lowO x y s) xs ys
theorem lowRow_len {xs ys : List (Option Nat)} {s : Nat} (h : xs.length = ys.length) : (lowRow xs ys s).length = xs.length := by
  unfold lowRow
  rw [List.length_zipWith]
  omega
theorem lowRow_get {xs ys : List (Option Nat)} {s i : Nat} {x y : Option Nat} (hx : xs[i]? = some x) (hy : ys[i]? = some y) : (lowRow xs ys s)[i]? = some (lowO x y s) := by
  unfold lowRow
  rw [List.getElem?_zipWith, hx, hy]
theorem lowRow_self (xs : List (Option Nat)) : lowRow xs xs 0 = xs := by
  refine List.ext_getElem? fun i => ?_
  cases e : xs[i]? with
  | none =>
    have : xs.length ≤ i := List.getElem?_eq_none_iff.mp e
    exact List.getElem?_eq_none_iff.mpr (by rw [lowRow_len rfl]; exact this)
  | some x => rw [lowRow_get e e, lowO_zero]
section
variable {P : Program} {w : World} {K : PySem.W.Frag} {mg : Str → Option Value} {base : Heap}
def sp_lowered : Sp := fun vs H Q _ => ∃ (r m : Addr) (xs ys : List (Option Nat)) (sh : Nat), vs = [.ref r, .ref m, VI sh] ∧ H r = some (.lst (xs.map VO)) ∧ H m = some (.lst (ys.map VO)) ∧ xs.length = ys.length ∧ (r = m → sh = 0) ∧
  ∀ H', Nx [r] H H' → H' r = some (.lst ((lowRow xs ys sh).map VO)) → Q .non H'
theorem ok_lowered (T : Txt K mg) : FnOk P w K mg base CX0 1 T.f_lowered T.d_lowered ["row", "middle", "ahead"] sp_lowered := by
  refine T.F_lowered.ok sc_lowered (fun vs H Q E h => ?_) (fun cdv A outer s H vs Q E hr h => ?_)
  · obtain ⟨r, m, xs, ys, sh, rfl, _⟩ := h
    rfl
  · obtain ⟨r, m, xs, ys, sh, rfl, hr', hm, hlen, h0, q⟩ := h
    have hl : (lowRow xs ys sh).length = xs.length := lowRow_len hlen
    refine ⟨_, (pss_one (ps_for PassesOwn.never rfl (pi_enum (by rfl) T.n_enumerate (pa_cons (pv 1) pa_nil)) (pg_tup rfl (pgs_cons (pg_name (i := 3) sc_lowered.nd rfl (.inl rfl)) (pgs_cons (pg_name (i := 4) sc_lowered.nd rfl (.inl rfl)) pgs_nil))) (pss_one (ps_if (PW.pt (pw_and (pt_cmpR op_notN (pv 4) pe_non (nomark _)) (pw_and1 (PW.pt (pw_or (pt_cmpR op_isN (pe_ix ix_list (pv 0) (pv 3) (fun _ _ => rfl)) pe_non (nomark _)) (pw_or1 (pt_cmpR op_gt (pe_ix ix_list (pv 0) (pv 3) (fun _ _ => rfl)) (pe_op op_add (pv 2) (pv 4)) (nomark _)))))))) (pss_one (ps_asg (pe_op op_add (pv 2) (pv 4)) (pg_sub (pv 0) (pv 3) set_list))) pss_nil)))), ?_⟩
    refine rd_for ?_
    refine ⟨_, rfl, m, _, rfl, SqL.of hm, ?_⟩
    have mid : ∀ {i H'}, Nx [r] H H' → H' r = some (.lst ((mix (lowRow xs ys sh) xs i).map VO)) → H' m = some (.lst (ys.map VO)) := fun {i H'} nx h => by
      by_cases e : r = m
      · have e0 := h0 e
        subst e e0
        have exy : xs.map VO = ys.map VO := by
          rw [hr'] at hm
          injection hm with hm
          injection hm
        rw [h]
        congr 2
        rw [← exy]
        congr 1
        have ex : xs = ys := by
          refine List.ext_getElem? fun j => ?_
          have := congrArg (fun l => l[j]?) exy
          simp only [List.getElem?_map] at this
          cases e1 : xs[j]? with
          | none =>
            rw [e1] at this
            cases e2 : ys[j]? with
            | none => rfl
            | some y => rw [e2] at this; cases this
          | some x =>
            rw [e1] at this
            cases e2 : ys[j]? with
            | none => rw [e2] at this; cases this
            | some y =>
              rw [e2] at this
              have h2 : VO x = VO y := Option.some.inj this
              cases x with
              | none => cases y with
                | none => rfl
                | some _ => cases h2
              | some a => cases y with
                | none => cases h2
                | some b => rw [VI_eq.mp h2]
        rw [← ex, lowRow_self, mix_self]
      · exact nx _ _ (by simp [Ne.symm e]) hm
    refine for_it (walk_enum (xs := ys.map VO)) (fun i σ H' => ∃ y3 y4 : Option V, σ = [some (.ref r), some (.ref m), some (VI sh), y3, y4] ∧ Nx [r] H H' ∧ H' r = some (.lst ((mix (lowRow xs ys sh) xs i).map VO))) ⟨_, _, rfl, Nx.refl, by rw [mix_zero]; exact hr'⟩
      (fun i σ H' _ ⟨_, _, _, nx, h⟩ => SqL.of (mid nx h)) (fun i v σ H1 H2 hi h1 hy => ?_) fun σ H1 h1 => ?_
    · obtain ⟨y3, y4, rfl, nx, hrow⟩ := h1
      obtain ⟨T1, x, y, rfl, nT, rfl, hx, hy⟩ := hy
      cases hx
      have hi' : i < ys.length := by simpa using hi
      have hix : i < xs.length := by omega
      have hy' : y = VO ys[i] := by
        have : (ys.map VO)[i]? = some y := hy
        rw [List.getElem?_map, List.getElem?_eq_getElem hi'] at this
        exact (Option.some.inj this).symm
      subst hy'
      have sT := Same.new (o := .tup [.int (i : Nat), VO ys[i]]) nT
      have hrow2 := sT _ _ hrow
      have gx : xs[i]? = some xs[i] := List.getElem?_eq_getElem hix
      have gy : ys[i]? = some ys[i] := List.getElem?_eq_getElem hi'
      generalize xs[i] = x at gx ⊢
      generalize ys[i] = y at gy hy hrow2 sT ⊢
      have gz := lowRow_get (s := sh) gx gy
      have gm : ((mix (lowRow xs ys sh) xs i).map VO)[i]? = some (VO x) := by rw [List.getElem?_map, mix_get hl hix, gx]; rfl
      have nx2 : Nx [r] H (upd H1 T1 (.tup [.int (i : Nat), VO y])) := Nx.trans nx (Nx.of sT)
      refine ⟨T1, _, rfl, SqT.of upd_same, rfl, _, _, rfl, _, _, rfl, rfl, ?_⟩
      generalize upd H1 T1 (.tup [.int (i : Nat), VO y]) = H2 at hrow2 sT nx2 ⊢
      -- nothing is stored
      have stay : lowO x y sh = x → ∃ y3 y4 : Option V, ([some (.ref r), some (.ref m), some (VI sh), some (.int (i : Nat)), some (VO y)] : L2.St) = [some (.ref r), some (.ref m), some (VI sh), y3, y4] ∧ Nx [r] H H2 ∧ H2 r = some (.lst ((mix (lowRow xs ys sh) xs (i + 1)).map VO)) :=
        fun e => ⟨_, _, rfl, nx2, by rw [← mix_skip hl hix (by rw [gz, gx, e])]; exact hrow2⟩
      -- the sum is stored
      have store : ∀ b, lowO x y sh = some (sh + b) → (∃ y3 y4 : Option V, ([some (.ref r), some (.ref m), some (VI sh), some (.int (i : Nat)), some (VO y)] : L2.St) = [some (.ref r), some (.ref m), some (VI sh), y3, y4] ∧ Nx [r] H (upd H2 r (.lst (((mix (lowRow xs ys sh) xs i).map VO).set i (.int ((sh : Int) + (b : Int)))))) ∧
          (upd H2 r (.lst (((mix (lowRow xs ys sh) xs i).map VO).set i (.int ((sh : Int) + (b : Int)))))) r = some (.lst ((mix (lowRow xs ys sh) xs (i + 1)).map VO))) := fun b e => ⟨_, _, rfl, Nx.put' nx2 (.inl (by simp)), by
        rw [upd_same, ← mix_set hl (by rw [gz, e]), List.map_set]
        rfl⟩
      have ixi : ixN ((mix (lowRow xs ys sh) xs i).map VO).length (i : Int) = some i := ixN_at (by rw [List.length_map, mix_len hl]; exact hix)
      refine ⟨_, rfl, rfl, _, rfl, ifN2 (fun hne => ?_) fun he => stay ?_⟩
      · cases y with
        | none => exact absurd rfl hne
        | some b =>
          refine ⟨_, rfl, _, rfl, r, _, _, VO x, rfl, rfl, SqL.of hrow2, at_ rfl gm, rfl, _, rfl, ?_⟩
          cases x with
          | none =>
            refine ifT rfl ?_
            exact ⟨_, rfl, _, rfl, (sh : Int), (b : Int), rfl, rfl, _, rfl, _, rfl, r, _, _, i, rfl, rfl, hrow2, ixi, store b rfl⟩
          | some a =>
            refine ifF (fun z => nomatch z) ?_
            refine ⟨_, rfl, _, rfl, r, _, _, VO (some a), rfl, rfl, SqL.of hrow2, at_ rfl gm, _, rfl, _, rfl, (sh : Int), (b : Int), rfl, rfl, (a : Int), _, rfl, rfl, _, rfl, if2 (fun lt => ?_) fun nlt => ?_⟩
            · have lt' : sh + b < a := by omega
              exact ⟨_, rfl, _, rfl, (sh : Int), (b : Int), rfl, rfl, _, rfl, _, rfl, r, _, _, i, rfl, rfl, hrow2, ixi, store b (if_pos lt')⟩
            · have nlt' : ¬ sh + b < a := by omega
              exact stay (if_neg nlt')
      · cases y with
        | none => rfl
        | some b => cases he
    · obtain ⟨y3, y4, rfl, nx, hrow⟩ := h1
      refine q H1 nx ?_
      rw [hrow, List.length_map, ← hlen, mix_all hl]
end
end K24

/-! rounds_table, least_rounds, is_behind, surely. -/
namespace K24
open PySem PySem.Spec PyProof.Rows L2
def rowOf (n : Nat) (F : Tb) (k : Nat) : List (Option Nat) := (List.range n).map (F k)
theorem rowOf_len (n : Nat) (F : Tb) (k : Nat) : (rowOf n F k).length = n := by unfold rowOf; rw [List.length_map, List.length_range]
theorem rowOf_get {n : Nat} (F : Tb) (k : Nat) {j : Nat} (h : j < n) : (rowOf n F k)[j]? = some (F k j) := by
  unfold rowOf
  rw [List.getElem?_map, List.getElem?_range h]
  rfl
theorem rowOf_setT {n : Nat} (F : Tb) {a b : Nat} (hb : b < n) (v : Option Nat) : (rowOf n F a).set b v = rowOf n (setT F a b v) a := by
  refine List.ext_getElem? fun j => ?_
  rw [List.getElem?_set]
  by_cases hj : j < n
  · rw [rowOf_get _ _ hj, rowOf_get _ _ hj, rowOf_len]
    by_cases e : b = j
    · subst e
      rw [if_pos rfl, if_pos hb, setT_same]
    · rw [if_neg e, setT_ne (fun z => e z.2.symm)]
  · have h1 : (rowOf n F a)[j]? = none := List.getElem?_eq_none_iff.mpr (by rw [rowOf_len]; omega)
    have h2 : (rowOf n (setT F a b v) a)[j]? = none := List.getElem?_eq_none_iff.mpr (by rw [rowOf_len]; omega)
    rw [if_neg (show ¬ b = j by omega), h1, h2]
theorem rowOf_other {n : Nat} (F : Tb) {a b k : Nat} (h : k ≠ a) (v : Option Nat) : rowOf n (setT F a b v) k = rowOf n F k := by
  unfold rowOf
  refine List.map_congr_left fun j _ => setT_ne fun z => h z.1
theorem rowOf_low {n : Nat} (F : Tb) (i m s : Nat) : lowRow (rowOf n F i) (rowOf n F m) s = rowOf n (rowT F i m s) i := by
  refine List.ext_getElem? fun j => ?_
  by_cases hj : j < n
  · rw [lowRow_get (rowOf_get F i hj) (rowOf_get F m hj), rowOf_get _ _ hj]
    unfold rowT
    rw [if_pos rfl]
  · have h1 : (lowRow (rowOf n F i) (rowOf n F m) s)[j]? = none := List.getElem?_eq_none_iff.mpr (by rw [lowRow_len (by rw [rowOf_len, rowOf_len]), rowOf_len]; omega)
    have h2 : (rowOf n (rowT F i m s) i)[j]? = none := List.getElem?_eq_none_iff.mpr (by rw [rowOf_len]; omega)
    rw [h1, h2]
theorem rowOf_rowT {n : Nat} (F : Tb) {i k : Nat} (m s : Nat) (h : k ≠ i) : rowOf n (rowT F i m s) k = rowOf n F k := by
  unfold rowOf
  exact List.map_congr_left fun j _ => if_neg h
/-- the table as lists: at A, of n rows -/
structure TabOk (H0 H : Hp) (A : Addr) (rs : List Addr) (n : Nat) (F : Tb) : Prop where
  at_ : H A = some (.lst (rs.map V.ref))
  len : rs.length = n
  nd : rs.Nodup
  own : ∀ r ∈ rs, r ≠ A ∧ H0 r = none
  row : ∀ k r, rs[k]? = some r → H r = some (.lst ((rowOf n F k).map VO))
theorem TabOk.same {H0 H H' : Hp} {A : Addr} {rs : List Addr} {n : Nat} {F : Tb} (t : TabOk H0 H A rs n F) (s : Same H H') : TabOk H0 H' A rs n F :=
  ⟨s _ _ t.at_, t.len, t.nd, t.own, fun k r h => s _ _ (t.row k r h)⟩
theorem TabOk.get {H0 H : Hp} {A : Addr} {rs : List Addr} {n : Nat} {F : Tb} (t : TabOk H0 H A rs n F) {k : Nat} (hk : k < n) : ∃ r, rs[k]? = some r ∧ (rs.map V.ref)[k]? = some (.ref r) ∧ H r = some (.lst ((rowOf n F k).map VO)) := by
  have e : rs[k]? = some (rs[k]'(by rw [t.len]; exact hk)) := List.getElem?_eq_getElem _
  refine ⟨_, e, ?_, t.row k _ e⟩
  rw [List.getElem?_map, e]
  rfl
theorem VO_get {n : Nat} (F : Tb) (k : Nat) {j : Nat} (h : j < n) : ((rowOf n F k).map VO)[j]? = some (VO (F k j)) := by rw [List.getElem?_map, rowOf_get F k h]; rfl
/-- one row is renewed -/
theorem TabOk.renew {H0 H : Hp} {A : Addr} {rs : List Addr} {n : Nat} {F G : Tb} (t : TabOk H0 H A rs n F) {k : Nat} {r : Addr} (hr : rs[k]? = some r) {H' : Hp} (nx : Nx [r] H H') (h : H' r = some (.lst ((rowOf n G k).map VO))) (ho : ∀ j, j ≠ k → rowOf n G j = rowOf n F j) : TabOk H0 H' A rs n G := by
  have hA : A ≠ r := fun e => (t.own r (List.mem_of_getElem? hr)).1 e.symm
  refine ⟨nx _ _ (by simp [hA]) t.at_, t.len, t.nd, t.own, fun j r' hj => ?_⟩
  by_cases e : j = k
  · subst e
    rw [hr] at hj
    cases hj
    exact h
  · have ne : r' ≠ r := fun z => e (by
      subst z
      exact nd_ix t.nd hj hr)
    rw [ho j e]
    exact nx _ _ (by simp [ne]) (t.row j r' hj)
/-- the table as tuples -/
def TblOk (H : Hp) (t : Addr) (n : Nat) (F : Tb) : Prop := ∃ ts : List Addr, H t = some (.tup (ts.map V.ref)) ∧ ts.length = n ∧ ∀ k r, ts[k]? = some r → H r = some (.tup ((rowOf n F k).map VO))
theorem TblOk.same {H H' : Hp} {t : Addr} {n : Nat} {F : Tb} (x : TblOk H t n F) (s : Same H H') : TblOk H' t n F :=
  let ⟨ts, h1, h2, h3⟩ := x
  ⟨ts, s _ _ h1, h2, fun k r h => s _ _ (h3 k r h)⟩
section
variable {P : Program} {w : World} {K : PySem.W.Frag} {mg : Str → Option Value} {base : Heap}
def sp_rounds_table (C : Addr) : Sp := fun vs H Q _ => ∃ (p : Addr) (n : Nat) (ls : List Lk), vs = [.ref p] ∧ PrOk C H p n ls ∧ n ≤ 1000 ∧ InR n ls ∧ ∀ H' t F, Same H H' → TblOk H' t n F → IsDist n ls F → Q (.ref t) H'
theorem ok_rounds_table (T : Txt K mg) : FnOk P w K mg base CX0 2 T.f_rounds_table T.d_rounds_table ["program"] (sp_rounds_table T.C) := by
  refine T.F_rounds_table.ok sc_rounds_table (fun vs H Q E h => ?_) (fun cdv A outer s H vs Q E hr h => ?_)
  · obtain ⟨p, n, ls, rfl, _⟩ := h
    rfl
  · obtain ⟨p, n, ls, rfl, ⟨dx, tl, fs, cs, h1', h2, h3, h4, h5⟩, hn, hR, q⟩ := h
    refine ⟨_, (pss_cons (ps_setLc (i := 1) (own := [("one", 2)]) (g := (gName 2)) (te := (tLc (iRng1 (tCons (tFld K (tVar 0) "steps") tNil)) (gName 3) tYes (tIf (tTest (tOp rEq (tVar 2) (tVar 3))) (tC (.int 0)) (tC .non)) [3])) (by rfl) sc_rounds_table.nd rfl rfl (sw_true rfl rfl rfl (by decide +kernel)) (pi_range1 (by rfl) T.n_range (pa_cons (pe_fld (pv 0) rfl) pa_nil)) (blkOk_by (by kernel_rfl)) (fun _ _ _ _ _ => (pg_name (i := 2) sc_rounds_table.nd rfl (.inr rfl))) (fun _ _ _ _ _ => pts_nil) (fun _ _ _ _ _ => (pe_lc (own := [("other", 3)]) (g := (gName 3)) (te := (tIf (tTest (tOp rEq (tVar 2) (tVar 3))) (tC (.int 0)) (tC .non))) (by rfl) sc_rounds_table.nd (pi_range1 (by rfl) T.n_range (pa_cons (pe_fld (pv 0) rfl) pa_nil)) (blkOk_by (by kernel_rfl)) (fun _ _ _ _ _ => (pg_name (i := 3) sc_rounds_table.nd rfl (.inl rfl))) (fun _ _ _ _ _ => pts_nil) (fun _ _ _ _ _ => (pe_ifExp (pt_cmpR op_eq (pv 2) (pv 3) (nomark _)) pe_int pe_non)))))
      (pss_cons (ps_for PassesOwn.never rfl (pi_tup (pe_fld (pv 0) rfl)) (pg_tup rfl (pgs_cons (pg_name (i := 2) sc_rounds_table.nd rfl (.inl rfl)) (pgs_cons (pg_name (i := 3) sc_rounds_table.nd rfl (.inl rfl)) (pgs_cons (pg_name (i := 4) sc_rounds_table.nd rfl (.inl rfl)) (pgs_cons (pg_name (i := 5) sc_rounds_table.nd rfl (.inl rfl)) (pgs_cons (pg_name (i := 6) sc_rounds_table.nd rfl (.inl rfl)) pgs_nil)))))) (pss_one (ps_if (PW.pt (pw_or (pt_cmpR op_isN (pe_ix ix_list (pe_ix ix_list (pv 1) (pv 2) (fun _ _ => rfl)) (pv 3) (fun _ _ => rfl)) pe_non (nomark _)) (pw_or1 (pt_cmpR op_gt (pe_ix ix_list (pe_ix ix_list (pv 1) (pv 2) (fun _ _ => rfl)) (pv 3) (fun _ _ => rfl)) (pv 4) (nomark _))))) (pss_one (ps_asg (pv 4) (pg_sub (pe_ix ix_list (pv 1) (pv 2) (fun _ _ => rfl)) (pv 3) set_list))) pss_nil)))
      (pss_cons (ps_for PassesOwn.never rfl (pi_range1 (by rfl) T.n_range (pa_cons (pe_fld (pv 0) rfl) pa_nil)) (pg_name (i := 7) sc_rounds_table.nd rfl (.inl rfl)) (pss_one (ps_for PassesOwn.never rfl (pi_range1 (by rfl) T.n_range (pa_cons (pe_fld (pv 0) rfl) pa_nil)) (pg_name (i := 2) sc_rounds_table.nd rfl (.inl rfl)) (pss_one (ps_if (pt_cmpR op_notN (pe_ix ix_list (pe_ix ix_list (pv 1) (pv 2) (fun _ _ => rfl)) (pv 7) (fun _ _ => rfl)) pe_non (nomark _)) (pss_one (ps_expr (pe_call (ok_lowered T) (hr.mono (by decide)) (by rfl) T.m_lowered T.F_lowered.kp (b_lowered T) .nil pass0 (pa_cons (pe_ix ix_list (pv 1) (pv 2) (fun _ _ => rfl)) (pa_cons (pe_ix ix_list (pv 1) (pv 7) (fun _ _ => rfl)) (pa_cons (pe_ix ix_list (pe_ix ix_list (pv 1) (pv 2) (fun _ _ => rfl)) (pv 7) (fun _ _ => rfl)) pa_nil)))))) pss_nil)))))
      (pss_one (ps_ret (pe_callTy call_tuple_of (by rfl) T.n_tuple (by decide +kernel) (pa_cons (pe_lc (own := [("row", 8)]) (g := (gName 8)) (te := (tCB (rTupOf K) (tCons (tVar 8) tNil))) (by rfl) sc_rounds_table.nd (pi_list (pv 1)) (blkOk_by (by kernel_rfl)) (fun _ _ _ _ _ => (pg_name (i := 8) sc_rounds_table.nd rfl (.inl rfl))) (fun _ _ _ _ _ => pts_nil) (fun _ _ _ _ _ => (pe_callTy call_tuple_of (by rfl) T.n_tuple (by decide +kernel) (pa_cons (pv 8) pa_nil)))) pa_nil))))))), ?_⟩
    -- far
    refine rd_set ?_
    refine ⟨_, rfl, p, T.C, dx, fs, _, rfl, h1', T.cl, T.a_steps, h2, (n : Int), rfl, by omega, by omega, fun D nD => lc_it walk_range (fun i H' => Same H H' ∧ ∃ rs : List Addr, H' D = some (.lst (rs.map V.ref)) ∧ rs.length = i ∧ rs.Nodup ∧ (∀ r ∈ rs, r ≠ D ∧ H r = none) ∧
      ∀ k r, rs[k]? = some r → H' r = some (.lst ((rowOf n tb0 k).map VO))) ⟨Same.new nD, [], upd_same, rfl, List.nodup_nil, fun r h => by simp at h, fun k r h => by simp at h⟩ (fun _ _ _ _ => trivial) (fun i v Ha Hb hi ha hy => ?_) fun H1 h1 => ?_⟩
    · obtain ⟨rfl, rfl⟩ := hy
      obtain ⟨sa, rs, hD, hlen, hnd, hown, hrow⟩ := ha
      have hi' : i < n := by omega
      refine ⟨rfl, _, rfl, p, T.C, dx, fs, _, rfl, sa _ _ h1', T.cl, T.a_steps, h2, (n : Int), rfl, by omega, by omega, fun D2 nD2 => lc_it walk_range (fun j H' => Same Hb H' ∧ H' D2 = some (.lst (((List.range j).map (tb0 i)).map VO))) ⟨Same.new nD2, upd_same⟩ (fun _ _ _ _ => trivial) (fun j v Hc Hd hj hc hy => ?_) fun H2 h2' => ?_⟩
      · obtain ⟨rfl, rfl⟩ := hy
        obtain ⟨sc, hD2⟩ := hc
        have put : ∀ x : Option Nat, x = tb0 i j → ∃ acc, Hd D2 = some (.lst acc) ∧ acc.length < sizeLine ∧ Same Hb (upd Hd D2 (.lst (acc ++ [VO x]))) ∧ (upd Hd D2 (.lst (acc ++ [VO x]))) D2 = some (.lst (((List.range (j + 1)).map (tb0 i)).map VO)) := fun x e => by
          refine ⟨_, hD2, ?_, fun c o e => ?_, ?_⟩
          · rw [List.length_map, List.length_map, List.length_range]
            exact small (by omega)
          · rw [upd_ne (ne_of_none e nD2)]
            exact sc _ _ e
          · rw [upd_same, e, List.range_succ, List.map_append, List.map_append]
            rfl
        refine ⟨rfl, _, rfl, _, rfl, rfl, _, rfl, if2 (fun e => ?_) fun ne => ?_⟩
        · have eij : i = j := by
            injection e with e
            omega
          exact put (some 0) (if_pos eij).symm
        · have nij : ¬ i = j := fun z => ne (by rw [z])
          exact put none (if_neg nij).symm
      · obtain ⟨s2, hD2⟩ := h2'
        have e1 : ((n : Int)).toNat = n := by omega
        rw [e1] at hD2
        have dD : D ≠ D2 := ne_of_none hD nD2
        refine ⟨_, s2 _ _ hD, ?_, fun c o e => ?_, rs ++ [D2], ?_, ?_, nd_snoc hnd fun m => ?_, fun r m => ?_, fun k r hk => ?_⟩
        · rw [List.length_map]
          exact small (by omega)
        · rw [upd_ne (ne_of_none e nD)]
          exact s2 _ _ (sa _ _ e)
        · rw [upd_same, List.map_append]
          rfl
        · rw [List.length_append, hlen]
          rfl
        · obtain ⟨k, hk, e⟩ := List.getElem_of_mem m
          have := hrow k D2 (by rw [List.getElem?_eq_getElem hk, e])
          rw [this] at nD2
          cases nD2
        · rcases List.mem_append.mp m with m | m
          · exact hown r m
          · have er : r = D2 := by simpa using m
            subst er
            exact ⟨dD.symm, Same.none sa nD2⟩
        · by_cases hk' : k < rs.length
          · rw [List.getElem?_append_left hk'] at hk
            have ne := (hown r (List.mem_of_getElem? hk)).1
            rw [upd_ne ne]
            exact s2 _ _ (hrow k r hk)
          · rw [List.getElem?_append_right (by omega)] at hk
            have ek : k - rs.length = 0 := by
              have := (List.getElem?_eq_some_iff.mp hk).1
              simp at this
              omega
            rw [ek] at hk
            have er : D2 = r := by simpa using hk
            subst er
            have eki : k = i := by omega
            subst eki
            rw [upd_ne dD.symm]
            exact hD2
    · obtain ⟨s1, rs, hD, hlen, hnd, hown, hrow⟩ := h1
      have e1 : ((n : Int)).toNat = n := by omega
      rw [e1] at hlen
      have t1 : TabOk H H1 D rs n tb0 := ⟨hD, hlen, hnd, hown, hrow⟩
      have hT : ∀ {H' : Hp}, Same H H' → SqT K H' tl (cs.map V.ref) := fun s => SqT.of (s _ _ h4)
      have ixr : ∀ {F : Tb} {k j : Nat}, j < n → ixN ((rowOf n F k).map VO).length (j : Int) = some j := fun h => ixN_at (by rw [List.length_map, rowOf_len]; exact h)
      -- the links
      refine rd_seq (rd_for ⟨_, rfl, p, T.C, dx, fs, _, rfl, s1 _ _ h1', T.cl, T.a_kept_links, h3, tl, rfl, ⟨_, hT s1⟩, ?_⟩)
      refine for_it (walk_tup (xs := cs.map V.ref)) (fun i σ H' => ∃ (y2 y3 y4 y5 y6 y7 y8 : Option V) (F : Tb), σ = [some (.ref p), some (.ref D), y2, y3, y4, y5, y6, y7, y8] ∧ Same H H' ∧ TabOk H H' D rs n F ∧ FL n ls i F)
        ⟨_, _, _, _, _, _, _, tb0, rfl, s1, t1, FL.start n ls⟩ (fun i σ H' _ h => ?_) (fun i v σ Ha Hb hi ha hy => ?_) fun σ H2 h2 => ?_
      · obtain ⟨_, _, _, _, _, _, _, _, _, s, _⟩ := h
        exact hT s
      · obtain ⟨rfl, hv⟩ := hy
        obtain ⟨z2, z3, z4, z5, z6, z7, z8, F, rfl, sa, ta, fl⟩ := ha
        obtain ⟨b, rfl, hb⟩ := map_get hv
        obtain ⟨⟨one, other, rounds⟩, hl, x5, y5', h5'⟩ := pget h5 hb
        have hb5 := sa _ _ h5'
        obtain ⟨ho, hot⟩ := hR _ _ _ (List.mem_of_getElem? hl)
        obtain ⟨r, hr1, hr2, hr3⟩ := ta.get ho
        have gv := VO_get F one hot
        refine ⟨b, _, rfl, SqT.of hb5, rfl, _, _, rfl, _, _, rfl, _, _, rfl, _, _, rfl, _, _, rfl, rfl, ?_⟩
        have store : (F one other = none ∨ ∃ e, F one other = some e ∧ rounds < e) → ∃ (y2 y3 y4 y5 y6 y7 y8 : Option V) (F' : Tb), ([some (.ref p), some (.ref D), some (VI one), some (VI other), some (VI rounds), some x5, some y5', z7, z8] : L2.St) = [some (.ref p), some (.ref D), y2, y3, y4, y5, y6, y7, y8] ∧
            Same H (upd Hb r (.lst (((rowOf n F one).map VO).set other (VI rounds)))) ∧ TabOk H (upd Hb r (.lst (((rowOf n F one).map VO).set other (VI rounds)))) D rs n F' ∧ FL n ls (i + 1) F' := fun hc => by
          refine ⟨_, _, _, _, _, _, _, setT F one other (some rounds), rfl, fun c o e => ?_, ta.renew hr1 (Nx.put (by simp)) ?_ fun j hj => rowOf_other F hj _, fl.low hR hl hc⟩
          · rw [upd_ne (ne_of_none e (ta.own r (List.mem_of_getElem? hr1)).2)]
            exact sa _ _ e
          · rw [upd_same, ← rowOf_setT F hot, List.map_set]
            rfl
        have stay : (∃ e, F one other = some e ∧ e ≤ rounds) → ∃ (y2 y3 y4 y5 y6 y7 y8 : Option V) (F' : Tb), ([some (.ref p), some (.ref D), some (VI one), some (VI other), some (VI rounds), some x5, some y5', z7, z8] : L2.St) = [some (.ref p), some (.ref D), y2, y3, y4, y5, y6, y7, y8] ∧
            Same H Hb ∧ TabOk H Hb D rs n F' ∧ FL n ls (i + 1) F' := fun ⟨e, he, hle⟩ => ⟨_, _, _, _, _, _, _, F, rfl, sa, ta, fl.keep hl he hle⟩
        have assign : (F one other = none ∨ ∃ e, F one other = some e ∧ rounds < e) → _ := fun hc => (⟨_, rfl, _, rfl, _, rfl, D, _, _, _, rfl, rfl, SqL.of ta.at_, at_ rfl hr2, _, rfl, r, _, _, other, rfl, rfl, hr3, ixr hot, store hc⟩ :
          tAsg (tVar 4) (gSub (tOp (rIxL K) (tVar 1) (tVar 2)) (tVar 3) rSetL) { nx := fun σ H' => ∃ (y2 y3 y4 y5 y6 y7 y8 : Option V) (F : Tb), σ = [some (.ref p), some (.ref D), y2, y3, y4, y5, y6, y7, y8] ∧ Same H H' ∧ TabOk H H' D rs n F ∧ FL n ls (i + 1) F, rt := fun _ _ => True } [some (.ref p), some (.ref D), some (VI one), some (VI other), some (VI rounds), some x5, some y5', z7, z8] Hb)
        refine ⟨_, rfl, _, rfl, D, _, _, _, rfl, rfl, SqL.of ta.at_, at_ rfl hr2, _, rfl, r, _, _, _, rfl, rfl, SqL.of hr3, at_ rfl gv, rfl, _, rfl, ?_⟩
        cases ev : F one other with
        | none => exact ifT rfl (assign (.inl ev))
        | some e =>
          rw [ev] at gv
          refine ifF (fun z => nomatch z) ?_
          refine ⟨_, rfl, _, rfl, D, _, _, _, rfl, rfl, SqL.of ta.at_, at_ rfl hr2, _, rfl, r, _, _, _, rfl, rfl, SqL.of hr3, at_ rfl gv, _, rfl, (e : Int), (rounds : Int), rfl, rfl, _, rfl, if2 (fun lt => ?_) fun nlt => ?_⟩
          · exact assign (.inr ⟨e, ev, by omega⟩)
          · exact stay ⟨e, ev, by omega⟩
      · obtain ⟨z2, z3, z4, z5, z6, z7, z8, F2, rfl, s2, t2, fl⟩ := h2
        rw [List.length_map, show cs.length = ls.length from Paired.length h5] at fl
        -- for middle in range(steps)
        dsimp only
        refine rd_seq (rd_for ⟨_, rfl, p, T.C, dx, fs, _, rfl, s2 _ _ h1', T.cl, T.a_steps, h2, (n : Int), rfl, by omega, by omega, ?_⟩)
        refine for_it walk_range (fun m σ H' => ∃ (y2 y3 y4 y5 y6 y7 y8 : Option V) (F : Tb), σ = [some (.ref p), some (.ref D), y2, y3, y4, y5, y6, y7, y8] ∧ Same H H' ∧ TabOk H H' D rs n F ∧ FW n ls m 0 F)
          ⟨_, _, _, _, _, _, _, F2, rfl, s2, t2, fl.fw⟩ (fun _ _ _ _ _ => trivial) (fun m v σ Ha Hb hm ha hy => ?_) fun σ H3 h3' => ?_
        · obtain ⟨rfl, rfl⟩ := hy
          obtain ⟨z2, z3, z4, z5, z6, z7, z8, F, rfl, sa, ta, fw⟩ := ha
          have hm' : m < n := by omega
          refine rd_for ⟨_, rfl, p, T.C, dx, fs, _, rfl, sa _ _ h1', T.cl, T.a_steps, h2, (n : Int), rfl, by omega, by omega, ?_⟩
          refine for_it walk_range (fun i σ H' => ∃ (y2 y3 y4 y5 y6 y8 : Option V) (F : Tb), σ = [some (.ref p), some (.ref D), y2, y3, y4, y5, y6, some (.int (0 + (m : Int))), y8] ∧ Same H H' ∧ TabOk H H' D rs n F ∧ FW n ls m i F)
            ⟨_, _, _, _, _, _, F, rfl, sa, ta, fw⟩ (fun _ _ _ _ _ => trivial) (fun i v σ Hc Hd hi hc hy => ?_) fun σ H4 h4' => ?_
          · obtain ⟨rfl, rfl⟩ := hy
            obtain ⟨u2, u3, u4, u5, u6, u8, F, rfl, sc, tc, fw⟩ := hc
            have hi' : i < n := by omega
            obtain ⟨r, hr1, hr2, hr3⟩ := tc.get hi'
            obtain ⟨rm, hm1, hm2, hm3⟩ := tc.get hm'
            have gv := VO_get F i hm'
            have e0 : (0 : Int) + (i : Int) = (i : Nat) := by omega
            have em : (0 : Int) + (m : Int) = (m : Nat) := by omega
            refine ⟨_, rfl, _, rfl, D, _, _, _, rfl, rfl, SqL.of tc.at_, at_ e0 hr2, _, rfl, r, _, _, _, rfl, rfl, SqL.of hr3, at_ em gv, rfl, _, rfl, ifN2 (fun hne => ?_) fun he => ?_⟩
            · cases ev : F i m with
              | none => rw [ev] at hne; exact absurd rfl hne
              | some sh =>
                rw [ev] at gv
                refine ⟨_, rfl, _, rfl, D, _, _, _, rfl, rfl, SqL.of tc.at_, at_ e0 hr2, _, rfl, _, rfl, D, _, _, _, rfl, rfl, SqL.of tc.at_, at_ em hm2, _, rfl, _, rfl, D, _, _, _, rfl, rfl, SqL.of tc.at_, at_ e0 hr2, _, rfl, r, _, _, _, rfl, rfl, SqL.of hr3, at_ em gv,
                  r, rm, rowOf n F i, rowOf n F m, sh, rfl, hr3, hm3, by rw [rowOf_len, rowOf_len], fun erm => ?_, fun H5 nx h5' => ?_⟩
                · subst erm
                  have eim := nd_ix tc.nd hr1 hm1
                  subst eim
                  have := fw.diag i hi'
                  rw [ev] at this
                  exact Option.some.inj this
                · rw [rowOf_low] at h5'
                  refine ⟨_, _, _, _, _, _, rowT F i m sh, rfl, fun c o e => nx _ _ (by simp [ne_of_none e (tc.own r (List.mem_of_getElem? hr1)).2]) (sc _ _ e), tc.renew hr1 nx h5' fun j hj => rowOf_rowT F m sh hj, fw.row hm' hi' ev⟩
            · have ev : F i m = none := by
                cases ev : F i m with
                | none => rfl
                | some sh => rw [ev] at he; cases he
              exact ⟨_, _, _, _, _, _, F, rfl, sc, tc, fw.skip hm' ev⟩
          · obtain ⟨u2, u3, u4, u5, u6, u8, F, rfl, sc, tc, fw⟩ := h4'
            rw [e1] at fw
            exact ⟨_, _, _, _, _, _, _, F, rfl, sc, tc, fw.next⟩
        · obtain ⟨z2, z3, z4, z5, z6, z7, z8, F, rfl, s3, t3, fw⟩ := h3'
          rw [e1] at fw
          -- the tuples
          dsimp only
          refine ⟨_, rfl, D, rfl, ⟨_, SqL.of t3.at_⟩, fun D2 nD2 => lc_it (walk_list (xs := rs.map V.ref)) (fun i H' => Same H3 H' ∧ ∃ ts : List Addr, H' D2 = some (.lst (ts.map V.ref)) ∧ ts.length = i ∧ ∀ k t, ts[k]? = some t → H' t = some (.tup ((rowOf n F k).map VO)))
            ⟨Same.new nD2, [], upd_same, rfl, fun k t h => by simp at h⟩ (fun i H' _ h => SqL.of (h.1 _ _ t3.at_)) (fun i v Ha Hb hi ha hy => ?_) fun H4 h4' => ?_⟩
          · obtain ⟨rfl, hv⟩ := hy
            obtain ⟨sa, ts, hD2, hts, hrow⟩ := ha
            obtain ⟨r, rfl, hr1⟩ := map_get hv
            refine ⟨rfl, _, rfl, r, _, rfl, .inl ⟨SqL.of (sa _ _ (t3.row i r hr1)), fun t nt => ?_⟩⟩
            have st := Same.new (o := .tup ((rowOf n F i).map VO)) nt
            have dt : D2 ≠ t := ne_of_none hD2 nt
            have hi' : i < n := by
              have := (List.getElem?_eq_some_iff.mp hr1).1
              rw [t3.len] at this
              exact this
            refine ⟨_, st _ _ hD2, ?_, fun c o e => ?_, ts ++ [t], ?_, ?_, fun k t' hk => ?_⟩
            · rw [List.length_map]
              exact small (by omega)
            · rw [upd_ne (ne_of_none e nD2)]
              exact st _ _ (sa _ _ e)
            · rw [upd_same, List.map_append]
              rfl
            · rw [List.length_append, hts]
              rfl
            · by_cases hk' : k < ts.length
              · rw [List.getElem?_append_left hk'] at hk
                have := hrow k t' hk
                rw [upd_ne (lt_ne this hD2)]
                exact st _ _ this
              · rw [List.getElem?_append_right (by omega)] at hk
                have ek : k - ts.length = 0 := by
                  have := (List.getElem?_eq_some_iff.mp hk).1
                  simp at this
                  omega
                rw [ek] at hk
                have et : t = t' := by simpa using hk
                subst et
                have eki : k = i := by omega
                subst eki
                rw [upd_ne dt.symm]
                exact upd_same
          · obtain ⟨s4, ts, hD2, hts, hrow⟩ := h4'
            refine ⟨D2, _, rfl, .inl ⟨SqL.of hD2, fun t nt => ?_⟩⟩
            have st := Same.new (o := .tup (ts.map V.ref)) nt
            refine q _ t F (Same.trans (Same.trans s3 s4) st) ⟨ts, upd_same, ?_, fun k r h => st _ _ (hrow k r h)⟩ (fw.done hR)
            rw [hts, List.length_map, t3.len]
def sp_least_rounds (C : Addr) : Sp := fun vs H Q _ => ∃ (p : Addr) (n a b : Nat) (ls : List Lk), vs = [.ref p, VI a, VI b] ∧ PrOk C H p n ls ∧ n ≤ 1000 ∧ InR n ls ∧ a < n ∧ b < n ∧ ∀ H' F, Same H H' → IsDist n ls F → Q (VO (F a b)) H'
theorem ok_least_rounds (T : Txt K mg) : FnOk P w K mg base CX0 5 T.f_least_rounds T.d_least_rounds ["program", "one", "other"] (sp_least_rounds T.C) := by
  refine T.F_least_rounds.ok sc_least_rounds (fun vs H Q E h => ?_) (fun cdv A outer s H vs Q E hr h => ?_)
  · obtain ⟨p, n, a, b, ls, rfl, _⟩ := h
    rfl
  · obtain ⟨p, n, a, b, ls, rfl, hp, hn, hR, ha, hb, q⟩ := h
    refine ⟨_, (pss_cons (ps_expr (pe_call (ok_check_step T) (hr.mono (by decide)) (by rfl) T.m_check_step T.F_check_step.kp (b_check_step T) .nil pass0 (pa_cons (pv 0) (pa_cons (pv 1) pa_nil))))
      (pss_cons (ps_expr (pe_call (ok_check_step T) (hr.mono (by decide)) (by rfl) T.m_check_step T.F_check_step.kp (b_check_step T) .nil pass0 (pa_cons (pv 0) (pa_cons (pv 2) pa_nil))))
      (pss_one (ps_ret (pe_ix ix_tup (pe_ix ix_tup (pe_call (ok_rounds_table T) (hr.mono (by decide)) (by rfl) T.m_rounds_table T.F_rounds_table.kp (b_rounds_table T) .nil pass0 (pa_cons (pv 0) pa_nil)) (pv 1) (fun _ _ => rfl)) (pv 2) (fun _ _ => rfl)))))), ?_⟩
    refine rd_expr ⟨_, rfl, _, rfl, p, n, a, ls, rfl, hp, ha, ?_⟩
    refine rd_expr ⟨_, rfl, _, rfl, p, n, b, ls, rfl, hp, hb, ?_⟩
    refine rd_ret ⟨_, rfl, p, n, ls, rfl, hp, hn, hR, fun H1 t F s1 ⟨ts, h1, h2, h3⟩ hF => ?_⟩
    have hta : ts[a]? = some (ts[a]'(by omega)) := List.getElem?_eq_getElem _
    refine ⟨_, rfl, t, _, _, _, rfl, rfl, SqT.of h1, at_ (v := .ref (ts[a]'(by omega))) rfl (by rw [List.getElem?_map, hta]; rfl), _, rfl, _, _, _, _, rfl, rfl, SqT.of (h3 a _ hta), at_ rfl (VO_get F a hb), q H1 F s1 hF⟩
/-- what is_behind answers -/
def behind (x : Option Nat) (i j : Nat) : Bool := match x with
  | none => false
  | some d => decide (i + d ≤ j)
def sp_is_behind : Sp := fun vs H Q _ => ∃ (t d1 d2 : Addr) (n a b i j : Nat) (F : Tb), vs = [.ref t, .ref d1, .ref d2] ∧ TblOk H t n F ∧ Dg H d1 a i ∧ Dg H d2 b j ∧ a < n ∧ b < n ∧ Q (.bl (behind (F a b) i j)) H
theorem ok_is_behind (T : Txt K mg) : FnOk P w K mg base CX0 1 T.f_is_behind T.d_is_behind ["table", "first", "second"] sp_is_behind := by
  refine T.F_is_behind.ok sc_is_behind (fun vs H Q E h => ?_) (fun cdv A outer s H vs Q E hr h => ?_)
  · obtain ⟨t, d1, d2, n, a, b, i, j, F, rfl, _⟩ := h
    rfl
  · obtain ⟨t, d1, d2, n, a, b, i, j, F, rfl, ⟨ts, h1, h2, h3⟩, hd1, hd2, ha, hb, q⟩ := h
    have hta : ts[a]? = some (ts[a]'(by omega)) := List.getElem?_eq_getElem _
    have D1 : SqT K H d1 [VI a, VI i] := SqT.of hd1
    have D2 : SqT K H d2 [VI b, VI j] := SqT.of hd2
    refine ⟨_, (pss_cons (ps_set (i := 3) sc_is_behind.nd rfl (.inl rfl) (pe_ix ix_tup (pe_ix ix_tup (pv 0) (pe_ix ix_tup (pv 1) pe_int (fun _ _ => rfl)) (fun _ _ => rfl)) (pe_ix ix_tup (pv 2) pe_int (fun _ _ => rfl)) (fun _ _ => rfl)))
      (pss_one (ps_ret (pe_and (pe_cmpR op_notN (pv 3) pe_non (nomark _)) (pe_one (pe_cmpR op_ge (pe_op op_sub (pe_ix ix_tup (pv 2) pe_int (fun _ _ => rfl)) (pe_ix ix_tup (pv 1) pe_int (fun _ _ => rfl))) (pv 3) (nomark _))))))), ?_⟩
    refine rd_set ⟨_, rfl, _, rfl, d1, _, _, _, rfl, rfl, D1, at_ (j := 0) rfl rfl, t, _, _, _, rfl, rfl, SqT.of h1, at_ (v := .ref (ts[a]'(by omega))) rfl (by rw [List.getElem?_map, hta]; rfl), _, rfl, d2, _, _, _, rfl, rfl, D2, at_ (j := 0) rfl rfl,
      _, _, _, _, rfl, rfl, SqT.of (h3 a _ hta), at_ rfl (VO_get F a hb), ?_⟩
    refine rd_ret ⟨_, rfl, rfl, _, rfl, ?_⟩
    cases ev : F a b with
    | none =>
      rw [ev] at q
      exact iteNS rfl q
    | some d =>
      rw [ev] at q
      refine ifN (fun z => nomatch z) ?_
      refine ⟨_, rfl, d2, _, _, _, rfl, rfl, D2, at_ (j := 1) rfl rfl, _, rfl, d1, _, _, _, rfl, rfl, D1, at_ (j := 1) rfl rfl, _, _, rfl, rfl, _, rfl, _, _, rfl, rfl, ?_⟩
      have e : decide ((d : Int) ≤ (j : Int) - (i : Int)) = behind (some d) i j := by
        show _ = decide (i + d ≤ j)
        by_cases h : i + d ≤ j
        · rw [decide_eq_true h, decide_eq_true (by omega)]
        · rw [decide_eq_false h, decide_eq_false (by omega)]
      show Q (.bl (decide ((d : Int) ≤ (j : Int) - (i : Int)))) H
      rw [e]
      exact q
def pair2 (a i : Nat) : PyData := .tuple [.int (a : Int), .int (i : Int)]
theorem pair2_shaped (a i : Nat) : SeqAt.shaped (pair2 a i) = true := by
  have h : (pair2 a i).canLay0 = true := by simp [pair2, PyData.canLay0, PyData.canLayAll0]
  have d : (pair2 a i).depth = 1 := by simp [pair2, PyData.depth, PyData.depthAll]
  show ((pair2 a i).canLay0 && decide ((pair2 a i).depth ≤ 64)) = true
  rw [h, d]
  rfl
theorem pair2_eqv (a i b j : Nat) : PyData.eqv (pair2 a i) (pair2 b j) = decide (a = b ∧ i = j) := by
  have e : PyData.eqv (pair2 a i) (pair2 b j) = (((a : Int) == (b : Int)) && (((i : Int) == (j : Int)) && true)) := by simp only [pair2, PyData.eqv, PyData.eqvAll]
  rw [e]
  by_cases h1 : a = b
  · by_cases h2 : i = j
    · subst h1 h2
      simp
    · rw [decide_eq_false (fun z => h2 z.2), (beq_eq_false_iff_ne.mpr (by omega) : ((i : Int) == (j : Int)) = false), Bool.false_and, Bool.and_false]
  · rw [decide_eq_false (fun z => h1 z.1), (beq_eq_false_iff_ne.mpr (by omega) : ((a : Int) == (b : Int)) = false), Bool.false_and]
theorem Dg.dp {H : Hp} {d : Addr} {a i : Nat} (h : Dg H d a i) : Dp K H (.ref d) (pair2 a i) := .tup (SqT.of h) (.cons (.int _) (.cons (.int _) .nil))
def sp_surely (C : Addr) : Sp := fun vs H Q _ => ∃ (p d1 d2 : Addr) (n a b i j : Nat) (ls : List Lk), vs = [.ref p, .ref d1, .ref d2] ∧ PrOk C H p n ls ∧ n ≤ 1000 ∧ InR n ls ∧ Dg H d1 a i ∧ Dg H d2 b j ∧ a < n ∧ b < n ∧ 1 ≤ i ∧ 1 ≤ j ∧
  (a = b ∧ i = j → Q (.bl false) H) ∧ (¬ (a = b ∧ i = j) → ∀ H' F, Same H H' → IsDist n ls F → Q (.bl (behind (F a b) i j)) H')
theorem ok_surely (T : Txt K mg) : FnOk P w K mg base CX0 6 T.f_surely T.d_surely ["program", "first", "second"] (sp_surely T.C) := by
  refine T.F_surely.ok sc_surely (fun vs H Q E h => ?_) (fun cdv A outer s H vs Q E hr h => ?_)
  · obtain ⟨p, d1, d2, n, a, b, i, j, ls, rfl, _⟩ := h
    rfl
  · obtain ⟨p, d1, d2, n, a, b, i, j, ls, rfl, hp, hn, hR, hd1, hd2, ha, hb, hi, hj, q1, q2⟩ := h
    refine ⟨_, (pss_cons (ps_expr (pe_call (ok_check_doing T) (hr.mono (by decide)) (by rfl) T.m_check_doing T.F_check_doing.kp (b_check_doing T) .nil pass0 (pa_cons (pv 0) (pa_cons (pv 1) pa_nil))))
      (pss_cons (ps_expr (pe_call (ok_check_doing T) (hr.mono (by decide)) (by rfl) T.m_check_doing T.F_check_doing.kp (b_check_doing T) .nil pass0 (pa_cons (pv 0) (pa_cons (pv 2) pa_nil))))
      (pss_one (ps_ret (pe_and (pe_cmpR (op_neD hr.units) (pv 1) (pv 2) (nomark _)) (pe_one (pe_call (ok_is_behind T) (hr.mono (by decide)) (by rfl) T.m_is_behind T.F_is_behind.kp (b_is_behind T) .nil pass0 (pa_cons (pe_call (ok_rounds_table T) (hr.mono (by decide)) (by rfl) T.m_rounds_table T.F_rounds_table.kp (b_rounds_table T) .nil pass0 (pa_cons (pv 0) pa_nil)) (pa_cons (pv 1) (pa_cons (pv 2) pa_nil)))))))))), ?_⟩
    refine rd_expr ⟨_, rfl, _, rfl, p, d1, n, a, i, ls, rfl, hp, hd1, ha, hi, ?_⟩
    refine rd_expr ⟨_, rfl, _, rfl, p, d2, n, b, j, ls, rfl, hp, hd2, hb, hj, ?_⟩
    refine rd_ret ⟨_, rfl, _, rfl, _, _, hd1.dp, hd2.dp, pair2_shaped a i, pair2_shaped b j, _, rfl, ?_⟩
    rw [pair2_eqv]
    refine ifN2 (fun ne => ?_) fun e => q1 e
    exact ⟨_, rfl, p, n, ls, rfl, hp, hn, hR, fun H1 t F s1 ht hF => ⟨_, rfl, _, rfl, t, d1, d2, n, a, b, i, j, F, rfl, ht, s1 _ _ hd1, s1 _ _ hd2, ha, hb, q2 ne H1 F s1 hF⟩⟩
end
end K24

/-! The pool: made, drawn from; a list mixed. -/
namespace K24
open PySem PySem.Spec PyProof.Rows L2
/-- a pool at p, its cells at c -/
def PoolOk (H : Hp) (p c : Addr) : Prop := p ≠ c ∧ ∃ (x y : Int) (zs : List Int), H p = some (.lst [.int x, .int y, .ref c]) ∧ H c = some (.lst (zs.map V.int))
theorem PoolOk.nx {H H' : Hp} {p c : Addr} (h : PoolOk H p c) (n : ∀ b o, (b = p ∨ b = c) → H b = some o → H' b = some o) : PoolOk H' p c :=
  let ⟨ne, x, y, zs, h1, h2⟩ := h
  ⟨ne, x, y, zs, n _ _ (.inl rfl) h1, n _ _ (.inr rfl) h2⟩
theorem PoolOk.same {H H' : Hp} {p c : Addr} (h : PoolOk H p c) (s : Same H H') : PoolOk H' p c := h.nx fun b o _ e => s b o e
/-- what is no list stands through draws -/
theorem PoolOk.tup {H H' : Hp} {p c : Addr} (h : PoolOk H p c) (nx : Nx [p, c] H H') : ∀ b xs, H b = some (.tup xs) → H' b = some (.tup xs) := fun b xs e => by
  obtain ⟨_, x, y, zs, h1, h2⟩ := h
  refine nx b _ ?_ e
  simp [lt_ne e h1, lt_ne e h2]
theorem PoolOk.ne {H : Hp} {p c b : Addr} (h : PoolOk H p c) (e : H b = none) : b ∉ [p, c] := by
  obtain ⟨_, x, y, zs, h1, h2⟩ := h
  have n1 : b ≠ p := (ne_of_none h1 e).symm
  have n2 : b ≠ c := (ne_of_none h2 e).symm
  simp [n1, n2]
theorem cut_int (ns : List Int) (lo hi : Option Int) : ∃ ms : List Int, cutV (ns.map V.int) lo hi = ms.map V.int ∧ ms.length ≤ ns.length := by
  refine ⟨(ns.drop (HT.sIx ns.length 0 lo)).take (HT.sIx ns.length ns.length hi - HT.sIx ns.length 0 lo), ?_, ?_⟩
  · unfold cutV
    rw [List.length_map, List.map_take, List.map_drop]
  · rw [List.length_take, List.length_drop]
    omega
section
variable {P : Program} {w : World} {K : PySem.W.Frag} {mg : Str → Option Value} {base : Heap}
def sp_law_pool (K : PySem.W.Frag) : Sp := fun vs H Q _ => ∃ (a : Addr) (ns : List Int), vs = [.ref a] ∧ SqL K H a (ns.map V.int) ∧ ns.length ≤ 1000 ∧ ∀ H' p c, Same H H' → PoolOk H' p c → H p = none → H c = none → Q (.ref p) H'
theorem ok_law_pool (T : Txt K mg) : FnOk P w K mg base CX0 1 T.f_law_pool T.d_law_pool ["_law_script"] (sp_law_pool K) := by
  refine T.F_law_pool.ok sc_law_pool (fun vs H Q E h => ?_) (fun cdv A outer s H vs Q E hr h => ?_)
  · obtain ⟨a, ns, rfl, _⟩ := h
    rfl
  · obtain ⟨a, ns, rfl, hS, hlen, q⟩ := h
    refine ⟨_, (pss_cons (ps_set (i := 1) sc_law_pool.nd rfl (.inl rfl) (pe_op op_add (pe_op op_add (pe_op op_mod (pe_callTy call_int1 (by rfl) T.n_int (by decide +kernel) (pa_cons (pe_callB (cr_sum rfl) (by rfl) T.n_sum (by decide +kernel) (pa_cons (pe_slice sl_list (pv 0) po_none (po_some pe_int)) pa_nil)) pa_nil)) pe_int) (pe_callB call_len_seq (by rfl) T.n_len (by decide +kernel) (pa_cons (pv 0) pa_nil))) pe_int))
      (pss_cons (ps_for PassesOwn.never rfl (pi_list (pe_slice sl_list (pv 0) po_none (po_some pe_int))) (pg_name (i := 2) sc_law_pool.nd rfl (.inl rfl)) (pss_one (ps_set (i := 1) sc_law_pool.nd rfl (.inl rfl) (pe_op op_mod (pe_callTy call_int1 (by rfl) T.n_int (by decide +kernel) (pa_cons (pe_op op_add (pe_op op_add (pe_op op_mul (pv 1) pe_int) (pe_op op_mod (pe_callTy call_int1 (by rfl) T.n_int (by decide +kernel) (pa_cons (pv 2) pa_nil)) pe_int)) pe_int) pa_nil)) pe_int))))
      (pss_one (ps_ret (pe_lst (pa_cons (pv 1) (pa_cons pe_int (pa_cons (pe_lc (own := [("_law_cell", 2)]) (g := (gName 2)) (te := (tCB rAbs (tCons (tVar 2) tNil))) (tt := (tTest (tOp (rI0 fun i j => .bl (decide (j ≤ i))) (tCB rAbs (tCons (tVar 2) tNil)) (tOp (rI CPow fun i j => .int (i ^ j.toNat)) (tC (.int 10)) (tC (.int 18)))))) (by rfl) sc_law_pool.nd (pi_list (pe_slice sl_list (pv 0) po_none (po_some pe_int))) (blkOk_by (by kernel_rfl)) (fun _ _ _ _ _ => (pg_name (i := 2) sc_law_pool.nd rfl (.inl rfl))) (fun _ _ _ _ _ => pts_one (pt_cmpR op_ge (pe_callB call_abs (by rfl) T.n_abs (by decide +kernel) (pa_cons (pv 2) pa_nil)) (pe_op op_pow pe_int pe_int) (nomark _))) (fun _ _ _ _ _ => (pe_callB call_abs (by rfl) T.n_abs (by decide +kernel) (pa_cons (pv 2) pa_nil)))) pa_nil)))))))), ?_⟩
    obtain ⟨m1, e1, _⟩ := cut_int ns none (some 1)
    refine rd_set ⟨_, rfl, 1, rfl, a, _, rfl, hS, fun p1 n1 => ⟨p1, m1, rfl, SqL.of (by rw [upd_same, e1]), ?_⟩⟩
    have s1 := Same.new (o := .lst (cutV (ns.map V.int) none (some 1))) n1
    refine .inl ⟨_, rfl, _, _, rfl, rfl, (by show (0 : Int) < _; decide), _, rfl, a, _, rfl, .inl (Same.seq s1 hS), _, _, rfl, rfl, _, _, rfl, rfl, ?_⟩
    generalize upd H p1 (.lst (cutV (ns.map V.int) none (some 1))) = H1 at s1 ⊢
    -- for cell in script[:63]
    obtain ⟨m2, e2, l2⟩ := cut_int ns none (some 63)
    refine rd_seq (rd_for ?_)
    refine ⟨_, rfl, 63, rfl, a, _, rfl, Same.seq s1 hS, fun p2 n2 => ?_⟩
    have s2 := Same.new (o := .lst (cutV (ns.map V.int) none (some 63))) n2
    have h2 : (upd H1 p2 (.lst (cutV (ns.map V.int) none (some 63)))) p2 = some (.lst (m2.map V.int)) := by rw [upd_same, e2]
    have s12 := Same.trans s1 s2
    generalize upd H1 p2 (.lst (cutV (ns.map V.int) none (some 63))) = H2 at s12 h2 ⊢
    refine ⟨p2, rfl, ⟨_, SqL.of h2⟩, ?_⟩
    refine for_it (walk_list (xs := m2.map V.int)) (fun i σ H' => H' = H2 ∧ ∃ (x : Int) (y : Option V), σ = [some (.ref a), some (.int x), y]) ⟨rfl, _, _, rfl⟩ (fun i σ H' _ h => ?_) (fun i v σ Ha Hb hi ha hy => ?_) fun σ H3 h3 => ?_
    · rw [h.1]
      exact SqL.of h2
    · obtain ⟨rfl, hv⟩ := hy
      obtain ⟨rfl, x, y, rfl⟩ := ha
      rw [List.getElem?_map] at hv
      obtain ⟨z, _, rfl⟩ := Option.map_eq_some_iff.mp hv
      exact ⟨_, rfl, _, _, rfl, rfl, .inr ⟨by decide, by decide⟩, _, rfl, .inl ⟨_, rfl, _, _, rfl, rfl, (by show (0 : Int) < _; decide), _, _, rfl, rfl, _, _, rfl, rfl, .inl ⟨_, rfl, _, _, rfl, rfl, (by show (0 : Int) < _; decide), rfl, _, _, rfl⟩⟩⟩
    · obtain ⟨rfl, x, y, rfl⟩ := h3
      dsimp only
      -- the cells
      refine rd_ret ⟨_, rfl, _, rfl, 63, rfl, a, _, rfl, Same.seq s12 hS, fun p3 n3 => ?_⟩
      have s3 := Same.new (o := .lst (cutV (ns.map V.int) none (some 63))) n3
      have h3 : (upd H3 p3 (.lst (cutV (ns.map V.int) none (some 63)))) p3 = some (.lst (m2.map V.int)) := by rw [upd_same, e2]
      have s13 := Same.trans s12 s3
      generalize upd H3 p3 (.lst (cutV (ns.map V.int) none (some 63))) = H4 at s13 h3 ⊢
      refine ⟨p3, rfl, ⟨_, SqL.of h3⟩, fun D nD => lc_it (walk_list (xs := m2.map V.int)) (fun i H' => Same H4 H' ∧ ∃ zs : List Int, H' D = some (.lst (zs.map V.int)) ∧ zs.length ≤ i) ⟨Same.new nD, [], upd_same, Nat.le_refl _⟩ (fun i H' _ h => SqL.of (h.1 _ _ h3)) (fun i v Ha Hb hi ha hy => ?_) fun H5 h5 => ?_⟩
      · obtain ⟨rfl, hv⟩ := hy
        obtain ⟨sa, zs, hD, hz⟩ := ha
        rw [List.length_map] at hi
        rw [List.getElem?_map] at hv
        obtain ⟨z, _, rfl⟩ := Option.map_eq_some_iff.mp hv
        refine ⟨rfl, _, rfl, _, rfl, _, _, rfl, rfl, ⟨by decide, by decide, by decide⟩, _, _, rfl, rfl, _, rfl, if2 (fun _ => ?_) fun _ => ⟨sa, zs, hD, by omega⟩⟩
        refine ⟨_, rfl, z, rfl, _, hD, ?_, fun c o e => ?_, zs ++ [if z < 0 then -z else z], ?_, ?_⟩
        · rw [List.length_map]
          exact small (by omega)
        · rw [upd_ne (ne_of_none e nD)]
          exact sa _ _ e
        · rw [upd_same, List.map_append]
          rfl
        · rw [List.length_append]
          show zs.length + 1 ≤ i + 1
          omega
      · obtain ⟨s5, zs, hD, hz⟩ := h5
        refine ⟨by show 3 ≤ sizeLine; decide, fun r nr => ?_⟩
        have s6 := Same.new (o := .lst [.int x, .int 0, .ref D]) nr
        have rD : r ≠ D := (ne_of_none hD nr).symm
        exact q _ r D (Same.trans (Same.trans s13 s5) s6) ⟨rD, x, 0, zs, upd_same, s6 _ _ hD⟩ (Same.none (Same.trans s13 s5) nr) (Same.none s13 nD)
def sp_law_draw : Sp := fun vs H Q _ => ∃ (p c : Addr) (m : Nat), vs = [.ref p, VI m] ∧ PoolOk H p c ∧ 1 ≤ m ∧ m ≤ 1000000 ∧ ∀ (k : Nat) H', k < m → PoolOk H' p c → Nx [p, c] H H' → Q (VI k) H'
theorem ok_law_draw (T : Txt K mg) : FnOk P w K mg base CX0 1 T.f_law_draw T.d_law_draw ["_law_pool_here", "_law_many"] sp_law_draw := by
  refine T.F_law_draw.ok sc_law_draw (fun vs H Q E h => ?_) (fun cdv A outer s H vs Q E hr h => ?_)
  · obtain ⟨p, c, m, rfl, _⟩ := h
    rfl
  · obtain ⟨p, c, m, rfl, ⟨npc, x, y, zs, hp, hc⟩, m1, m2, q⟩ := h
    refine ⟨_, (pss_cons (ps_asg (pe_op op_add (pe_ix ix_list (pv 0) pe_int (fun _ _ => rfl)) pe_int) (pg_sub (pv 0) pe_int set_list))
      (pss_cons (ps_set (i := 2) sc_law_draw.nd rfl (.inl rfl) (pe_ix ix_list (pv 0) pe_int (fun _ _ => rfl)))
      (pss_cons (ps_if (pt_cmpR op_gt (pe_callB call_len_seq (by rfl) T.n_len (by decide +kernel) (pa_cons (pv 2) pa_nil)) pe_int (nomark _)) (pss_cons (ps_set (i := 3) sc_law_draw.nd rfl (.inl rfl) (pe_op op_mod (pe_callTy call_int1 (by rfl) T.n_int (by decide +kernel) (pa_cons (pe_ix ix_list (pv 2) pe_int (fun _ _ => rfl)) pa_nil)) (pv 1)))
      (pss_cons (ps_asg (pe_op op_fdiv (pe_callTy call_int1 (by rfl) T.n_int (by decide +kernel) (pa_cons (pe_ix ix_list (pv 2) pe_int (fun _ _ => rfl)) pa_nil)) (pv 1)) (pg_sub (pv 2) pe_int set_list))
      (pss_cons (ps_if (pt_cmpR op_eq (pe_ix ix_list (pv 2) pe_int (fun _ _ => rfl)) pe_int (nomark _)) (pss_one (ps_expr (pe_bm PySem.F.plainAttrs_list PySem.F.slot_list_pop PySem.F.type_list_pop mt_popAt (pv 2) (pa_cons pe_int pa_nil)))) pss_nil)
      (pss_one (ps_ret (pv 3)))))) pss_nil)
      (pss_cons (ps_set (i := 4) sc_law_draw.nd rfl (.inl rfl) (pe_op op_mod (pe_callTy call_int1 (by rfl) T.n_int (by decide +kernel) (pa_cons (pe_op op_mul (pe_op op_add (pe_ix ix_list (pv 0) pe_int (fun _ _ => rfl)) (pe_op op_mul pe_int (pe_ix ix_list (pv 0) pe_int (fun _ _ => rfl)))) pe_int) pa_nil)) pe_int))
      (pss_cons (ps_set (i := 4) sc_law_draw.nd rfl (.inl rfl) (pe_op op_mod (pe_callTy call_int1 (by rfl) T.n_int (by decide +kernel) (pa_cons (pe_op op_mul (pv 4) (pe_op op_add (pe_op op_fdiv (pv 4) pe_int) pe_int)) pa_nil)) pe_int))
      (pss_cons (ps_set (i := 4) sc_law_draw.nd rfl (.inl rfl) (pe_op op_mod (pe_callTy call_int1 (by rfl) T.n_int (by decide +kernel) (pa_cons (pe_op op_mul (pv 4) (pe_op op_add (pe_op op_fdiv (pv 4) pe_int) pe_int)) pa_nil)) pe_int))
      (pss_one (ps_ret (pe_op op_mod (pe_callTy call_int1 (by rfl) T.n_int (by decide +kernel) (pa_cons (pe_op op_fdiv (pv 4) pe_int) pa_nil)) (pv 1)))))))))), ?_⟩
    have modN : ∀ z : Int, ∃ k : Nat, k < m ∧ z % (m : Int) = (k : Int) := fun z => by
      have h1 := Int.emod_nonneg z (show (m : Int) ≠ 0 by omega)
      have h2 := Int.emod_lt_of_pos z (show (0 : Int) < m by omega)
      exact ⟨(z % (m : Int)).toNat, by omega, by omega⟩
    -- pool[1] = pool[1] + 1
    refine rd_seq ⟨_, rfl, p, _, _, _, rfl, rfl, SqL.of hp, at_ (j := 1) rfl rfl, _, _, rfl, rfl, _, rfl, p, _, _, 1, rfl, rfl, hp, rfl, ?_⟩
    have hp1 : (upd H p (.lst ([V.int x, V.int y, V.ref c].set 1 (.int (y + 1))))) p = some (.lst [.int x, .int (y + 1), .ref c]) := upd_same
    have hc1 : (upd H p (.lst ([V.int x, V.int y, V.ref c].set 1 (.int (y + 1))))) c = some (.lst (zs.map V.int)) := by rw [upd_ne npc.symm]; exact hc
    have nx1 : Nx [p, c] H (upd H p (.lst ([V.int x, V.int y, V.ref c].set 1 (.int (y + 1))))) := Nx.put (by simp)
    generalize upd H p (.lst ([V.int x, V.int y, V.ref c].set 1 (.int (y + 1)))) = H1 at hp1 hc1 nx1 ⊢
    -- cells = pool[2]
    dsimp only
    refine rd_set ⟨_, rfl, p, _, _, _, rfl, rfl, SqL.of hp1, at_ (j := 2) rfl rfl, ?_⟩
    refine rd_seq ⟨_, rfl, c, _, rfl, .inl (SqL.of hc1), _, _, rfl, rfl, _, rfl, if2 (fun hz => ?_) fun _ => ?_⟩
    · cases zs with
      | nil => exact absurd hz (by decide)
      | cons z zs =>
        have at0 : ((z :: zs).map V.int)[0]? = some (.int z) := rfl
        refine rd_set ⟨_, rfl, c, _, _, _, rfl, rfl, SqL.of hc1, at_ (j := 0) rfl at0, .inl ⟨_, rfl, _, rfl, _, _, rfl, rfl, by omega, ?_⟩⟩
        refine rd_seq ⟨_, rfl, c, _, _, _, rfl, rfl, SqL.of hc1, at_ (j := 0) rfl at0, .inl ⟨_, rfl, _, rfl, _, _, rfl, rfl, ⟨by omega, by omega⟩, _, rfl, c, _, _, 0, rfl, rfl, hc1, ixN_at (i := 0) (by simp), ?_⟩⟩
        have hc2 : (upd H1 c (.lst (((z :: zs).map V.int).set 0 (.int (z / (m : Int)))))) c = some (.lst (((z / (m : Int)) :: zs).map V.int)) := upd_same
        have hp2 : (upd H1 c (.lst (((z :: zs).map V.int).set 0 (.int (z / (m : Int)))))) p = some (.lst [.int x, .int (y + 1), .ref c]) := by rw [upd_ne npc]; exact hp1
        have nx2 : Nx [p, c] H (upd H1 c (.lst (((z :: zs).map V.int).set 0 (.int (z / (m : Int)))))) := Nx.put' nx1 (.inl (by simp))
        generalize upd H1 c (.lst (((z :: zs).map V.int).set 0 (.int (z / (m : Int))))) = H2 at hc2 hp2 nx2 ⊢
        dsimp only
        obtain ⟨k, hk, ek⟩ := modN z
        have at1 : (((z / (m : Int)) :: zs).map V.int)[0]? = some (.int (z / (m : Int))) := rfl
        refine rd_seq ⟨_, rfl, c, _, _, _, rfl, rfl, SqL.of hc2, at_ (j := 0) rfl at1, rfl, _, rfl, if2 (fun h0 => ?_) fun _ => ?_⟩
        · refine ⟨_, rfl, .inl ⟨rfl, _, SqL.of hc2⟩, c, _, 0, 0, _, rfl, rfl, hc2, by decide, by decide, (ixN_seq (ixN_at (i := 0) (by simp))).1, at1, ?_⟩
          refine ⟨_, rfl, ?_⟩
          show Q (.int (z % (m : Int))) _
          rw [ek]
          refine q k _ hk ⟨npc, x, y + 1, zs, ?_, upd_same⟩ (Nx.put' nx2 (.inl (by simp)))
          rw [upd_ne npc]
          exact hp2
        · refine ⟨_, rfl, ?_⟩
          show Q (.int (z % (m : Int))) _
          rw [ek]
          exact q k _ hk ⟨npc, x, y + 1, _, hp2, hc2⟩ nx2
    · dsimp only [tNext]
      have ok1 : PoolOk H1 p c := ⟨npc, x, y + 1, zs, hp1, hc1⟩
      refine rd_set ⟨_, rfl, p, _, _, _, rfl, rfl, SqL.of hp1, at_ (j := 0) rfl rfl, _, rfl, p, _, _, _, rfl, rfl, SqL.of hp1, at_ (j := 1) rfl rfl, _, _, rfl, rfl, .inl ⟨by decide, by decide⟩, _, _, rfl, rfl, _, _, rfl, rfl, .inr ⟨by decide, by decide⟩, .inl ⟨_, rfl, _, _, rfl, rfl, (by show (0 : Int) < _; decide), ?_⟩⟩
      have b1 := Int.emod_nonneg ((x + 7919 * (y + 1)) * 48271) (show (2147483647 : Int) ≠ 0 by decide)
      have b2 := Int.emod_lt_of_pos ((x + 7919 * (y + 1)) * 48271) (show (0 : Int) < 2147483647 by decide)
      dsimp only
      generalize (x + 7919 * (y + 1)) * 48271 % 2147483647 = u at b1 b2 ⊢
      refine rd_set ⟨_, rfl, _, rfl, _, _, rfl, rfl, ⟨by decide, by decide⟩, _, _, rfl, rfl, _, _, rfl, rfl, .inl ⟨by omega, by omega⟩, .inl ⟨_, rfl, _, _, rfl, rfl, (by show (0 : Int) < _; decide), ?_⟩⟩
      have c1 := Int.emod_nonneg (u * (u / 1009 + 69621)) (show (2147483647 : Int) ≠ 0 by decide)
      have c2 := Int.emod_lt_of_pos (u * (u / 1009 + 69621)) (show (0 : Int) < 2147483647 by decide)
      dsimp only
      generalize u * (u / 1009 + 69621) % 2147483647 = v at c1 c2 ⊢
      refine rd_set ⟨_, rfl, _, rfl, _, _, rfl, rfl, ⟨by decide, by decide⟩, _, _, rfl, rfl, _, _, rfl, rfl, .inl ⟨by omega, by omega⟩, .inl ⟨_, rfl, _, _, rfl, rfl, (by show (0 : Int) < _; decide), ?_⟩⟩
      dsimp only
      generalize v * (v / 2003 + 40692) % 2147483399 = t
      refine rd_ret ⟨_, rfl, _, _, rfl, rfl, ⟨by decide, by decide⟩, .inl ⟨_, rfl, _, rfl, _, _, rfl, rfl, by omega, ?_⟩⟩
      obtain ⟨k, hk, ek⟩ := modN (t / 16)
      show Q (.int (t / 16 % (m : Int))) _
      rw [ek]
      exact q k _ hk ok1 nx1
end
end K24

/-! A list mixed; links drawn; a ring. -/
namespace K24
open PySem PySem.Spec PyProof.Rows L2
theorem erase_perm {α : Type} : ∀ (l : List α) (k : Nat) (x : α), l[k]? = some x → (x :: l.eraseIdx k).Perm l
  | [], _, _, h => by simp at h
  | y :: r, 0, x, h => by
    have e : y = x := by simpa using h
    subst e
    exact List.Perm.refl _
  | y :: r, k + 1, x, h => by
    have ih := erase_perm r k x (by simpa using h)
    show (x :: y :: r.eraseIdx k).Perm (y :: r)
    exact (List.Perm.swap y x _).trans (ih.cons y)
theorem erase_map {α β : Type} (f : α → β) : ∀ (l : List α) (k : Nat), (l.map f).eraseIdx k = (l.eraseIdx k).map f
  | [], _ => rfl
  | _ :: _, 0 => rfl
  | x :: r, k + 1 => congrArg (f x :: ·) (erase_map f r k)
section
variable {P : Program} {w : World} {K : PySem.W.Frag} {mg : Str → Option Value} {base : Heap}
def sp_law_mixed (K : PySem.W.Frag) : Sp := fun vs H Q _ => ∃ (p c a : Addr) (ns : List Nat), vs = [.ref p, .ref a] ∧ PoolOk H p c ∧ SqL K H a (ns.map VI) ∧ ns.length ≤ 1000 ∧
  ∀ (H' : Hp) (r : Addr) (ms : List Nat), Nx [p, c] H H' → PoolOk H' p c → H r = none → H' r = some (.lst (ms.map VI)) → ms.Perm ns → Q (.ref r) H'
theorem ok_law_mixed (T : Txt K mg) : FnOk P w K mg base CX0 2 T.f_law_mixed T.d_law_mixed ["_law_pool_here", "_law_things"] (sp_law_mixed K) := by
  refine T.F_law_mixed.ok sc_law_mixed (fun vs H Q E h => ?_) (fun cdv A outer s H vs Q E hr h => ?_)
  · obtain ⟨p, c, a, ns, rfl, _⟩ := h
    rfl
  · obtain ⟨p, c, a, ns, rfl, hp, ha, hn, q⟩ := h
    refine ⟨_, (pss_cons (ps_set (i := 2) sc_law_mixed.nd rfl (.inl rfl) (pe_callTy call_list_of (by rfl) T.n_list (by decide +kernel) (pa_cons (pv 1) pa_nil)))
      (pss_cons (ps_set (i := 3) sc_law_mixed.nd rfl (.inl rfl) (pe_lst pa_nil))
      (pss_cons (ps_for PassesOwn.never rfl (pi_range1 (by rfl) T.n_range (pa_cons (pe_callB call_len_seq (by rfl) T.n_len (by decide +kernel) (pa_cons (pv 1) pa_nil)) pa_nil)) (pg_name (i := 4) sc_law_mixed.nd rfl (.inl rfl)) (pss_one (ps_expr (pe_bm PySem.F.plainAttrs_list PySem.F.slot_list_append PySem.F.type_list_append mt_append (pv 3) (pa_cons (pe_bm PySem.F.plainAttrs_list PySem.F.slot_list_pop PySem.F.type_list_pop mt_popAt (pv 2) (pa_cons (pe_call (ok_law_draw T) (hr.mono (by decide)) (by rfl) T.m_law_draw T.F_law_draw.kp (b_law_draw T) .nil pass0 (pa_cons (pv 0) (pa_cons (pe_callB call_len_seq (by rfl) T.n_len (by decide +kernel) (pa_cons (pv 2) pa_nil)) pa_nil))) pa_nil)) pa_nil)))))
      (pss_one (ps_ret (pv 3)))))), ?_⟩
    refine rd_set ⟨_, rfl, a, _, rfl, .inl ha, fun L nL => ?_⟩
    have hL : (upd H L (.lst (ns.map VI))) L = _ := upd_same
    have s1 := Same.new (o := .lst (ns.map VI)) nL
    generalize upd H L (.lst (ns.map VI)) = H1 at hL s1 ⊢
    refine rd_set ⟨Nat.zero_le _, fun M nM => ?_⟩
    have hM : (upd H1 M (.lst [])) M = _ := upd_same
    have s2 := Same.new (o := .lst []) nM
    have hL2 := s2 _ _ hL
    have nLM : L ≠ M := ne_of_none hL nM
    have s12 := Same.trans s1 s2
    have nM0 := Same.none s1 nM
    generalize upd H1 M (.lst []) = H2 at hM s12 hL2 ⊢
    refine rd_seq (rd_for ⟨_, rfl, a, _, rfl, .inl (Same.seq s12 ha), ((ns.map VI).length : Int), rfl, by rw [List.length_map]; omega, by rw [List.length_map]; omega, ?_⟩)
    refine for_it walk_range (fun k σ H' => ∃ (y : Option V) (ls ms : List Nat), σ = [some (.ref p), some (.ref a), some (.ref L), some (.ref M), y] ∧ Nx [p, c] H H' ∧ PoolOk H' p c ∧ H' L = some (.lst (ls.map VI)) ∧ H' M = some (.lst (ms.map VI)) ∧ (ms ++ ls).Perm ns ∧ ls.length + k = ns.length)
      ⟨_, ns, [], rfl, Nx.of s12, hp.same s12, hL2, hM, List.Perm.refl _, rfl⟩ (fun _ _ _ _ _ => trivial) (fun k v σ Ha Hb hk ha' hy => ?_) fun σ H3 h3 => ?_
    · obtain ⟨rfl, rfl⟩ := hy
      obtain ⟨y, ls, ms, rfl, nx, pk, hL', hM', perm, len⟩ := ha'
      rw [List.length_map] at hk
      have lpos : 1 ≤ ls.length := by omega
      have lM := perm.length_eq
      rw [List.length_append] at lM
      refine ⟨_, rfl, .inl ⟨rfl, _, SqL.of hM'⟩, _, rfl, .inl ⟨rfl, _, SqL.of hL'⟩, _, rfl, _, rfl, L, _, rfl, .inl (SqL.of hL'), p, c, ls.length, ?_, pk, lpos, by omega, fun j H4 hj pk4 nx4 => ?_⟩
      · show [V.ref p, .int ((ls.map VI).length : Int)] = [V.ref p, VI ls.length]
        rw [List.length_map]
      have hL4 := nx4 _ _ (hp.ne nL) hL'
      have hM4 := nx4 _ _ (hp.ne nM0) hM'
      obtain ⟨x, hx⟩ : ∃ x, ls[j]? = some x := ⟨_, List.getElem?_eq_getElem hj⟩
      have gx : (ls.map VI)[j]? = some (VI x) := by rw [List.getElem?_map, hx]; rfl
      have sq := (ixN_seq (ixN_at (n := (ls.map VI).length) (i := j) (by rw [List.length_map]; exact hj))).1
      have hM5 : (upd H4 L (.lst ((ls.map VI).eraseIdx j))) M = some (.lst (ms.map VI)) := by rw [upd_ne nLM.symm]; exact hM4
      refine ⟨L, _, (j : Int), j, _, rfl, rfl, hL4, by omega, by omega, sq, gx, M, _, _, rfl, rfl, hM5, ?_, _, ls.eraseIdx j, ms ++ [x], rfl, ?_, ?_, ?_, ?_, ?_, ?_⟩
      · rw [List.length_map]
        exact small (by omega)
      · exact Nx.put' (Nx.put' (Nx.trans nx nx4) (.inr nL)) (.inr nM0)
      · refine pk4.nx fun b o hb e => ?_
        have bL : b ≠ L := fun z => hp.ne nL (by rcases hb with h | h <;> simp [← z, h])
        have bM : b ≠ M := fun z => hp.ne nM0 (by rcases hb with h | h <;> simp [← z, h])
        rw [upd_ne bM, upd_ne bL]
        exact e
      · rw [upd_ne nLM, upd_same, erase_map]
      · rw [upd_same, List.map_append]
        rfl
      · rw [List.append_assoc]
        exact ((erase_perm ls j x hx).append_left ms).trans perm
      · have := (erase_perm ls j x hx).length_eq
        rw [List.length_cons] at this
        omega
    · obtain ⟨y, ls, ms, rfl, nx, pk, hL', hM', perm, len⟩ := h3
      have l0 : ls = [] := by
        have e : (((ns.map VI).length : Int)).toNat = ns.length := by rw [List.length_map]; omega
        rw [e] at len
        exact List.eq_nil_of_length_eq_zero (by omega)
      subst l0
      rw [List.append_nil] at perm
      exact ⟨_, rfl, q H3 M ms nx pk nM0 hM' perm⟩
end
end K24

/-! Links drawn; a ring. -/
namespace K24
open PySem PySem.Spec PyProof.Rows L2
/-! ### triples as data -/
def trD (l : Lk) : PyData := .tuple [.int (l.1 : Int), .int (l.2.1 : Int), .int (l.2.2 : Int)]
theorem trD_lay (l : Lk) : (trD l).canLay0 = true := by simp [trD, PyData.canLay0, PyData.canLayAll0]
theorem trD_depth (l : Lk) : (trD l).depth = 1 := by simp [trD, PyData.depth, PyData.depthAll]
theorem trD_shaped (l : Lk) : SeqAt.shaped (trD l) = true := by
  show ((trD l).canLay0 && decide ((trD l).depth ≤ 64)) = true
  rw [trD_lay, trD_depth]
  rfl
theorem trDs_lay : ∀ ls : List Lk, PyData.canLayAll0 (ls.map trD) = true
  | [] => by simp [PyData.canLayAll0]
  | l :: ls => by simp [PyData.canLayAll0, trD_lay l, trDs_lay ls]
theorem trDs_depth : ∀ ls : List Lk, PyData.depthAll (ls.map trD) ≤ 1
  | [] => by simp [PyData.depthAll]
  | l :: ls => by
    have h1 := trDs_depth ls
    have h2 := trD_depth l
    simp only [List.map_cons, PyData.depthAll]
    omega
theorem trDs_shaped (ls : List Lk) : SeqAt.shaped (.list (ls.map trD)) = true := by
  have h1 := trDs_depth ls
  have h2 : PyData.depth (.list (ls.map trD)) ≤ 64 := by
    simp only [PyData.depth]
    omega
  have h3 : PyData.canLay0 (.list (ls.map trD)) = true := by simp only [PyData.canLay0]; exact trDs_lay ls
  show (PyData.canLay0 (.list (ls.map trD)) && decide (PyData.depth (.list (ls.map trD)) ≤ 64)) = true
  rw [h3, decide_eq_true h2]
  rfl
theorem trD_eqv (l m : Lk) : PyData.eqv (trD l) (trD m) = decide (l = m) := by
  obtain ⟨a, b, c⟩ := l
  obtain ⟨a', b', c'⟩ := m
  have e : PyData.eqv (trD (a, b, c)) (trD (a', b', c')) = (((a : Int) == (a' : Int)) && (((b : Int) == (b' : Int)) && (((c : Int) == (c' : Int)) && true))) := by simp only [trD, PyData.eqv, PyData.eqvAll]
  rw [e]
  have one : ∀ x y : Nat, ((x : Int) == (y : Int)) = decide (x = y) := fun x y => by
    by_cases h : x = y
    · subst h; simp
    · rw [decide_eq_false h]; exact beq_eq_false_iff_ne.mpr (by omega)
  rw [one, one, one, Bool.and_true]
  by_cases h1 : a = a'
  · by_cases h2 : b = b'
    · by_cases h3 : c = c'
      · subst h1 h2 h3; simp
      · rw [decide_eq_false h3, Bool.and_false, Bool.and_false, decide_eq_false (fun z => h3 (by injection z with _ z; injection z))]
    · rw [decide_eq_false h2, Bool.false_and, Bool.and_false, decide_eq_false (fun z => h2 (by injection z with _ z; injection z))]
  · rw [decide_eq_false h1, Bool.false_and, decide_eq_false (fun z => h1 (by injection z))]
theorem trD_any (ls : List Lk) (l : Lk) : ((ls.map trD).any fun z => PyData.eqv z (trD l)) = decide (l ∈ ls) := by
  rw [List.any_map]
  by_cases h : l ∈ ls
  · rw [decide_eq_true h]
    exact List.any_eq_true.mpr ⟨l, h, by show PyData.eqv (trD l) (trD l) = true; rw [trD_eqv]; exact decide_eq_true rfl⟩
  · rw [decide_eq_false h]
    refine Bool.eq_false_iff.mpr fun q => ?_
    obtain ⟨m, hm, e⟩ := List.any_eq_true.mp q
    have e' : PyData.eqv (trD m) (trD l) = true := e
    rw [trD_eqv] at e'
    exact h (of_decide_eq_true e' ▸ hm)
section
variable {K : PySem.W.Frag}
theorem Tr.dp {H : Hp} {a : Addr} {l : Lk} (h : Tr H a l) : Dp K H (.ref a) (trD l) := .tup (SqT.of h) (.cons (.int _) (.cons (.int _) (.cons (.int _) .nil)))
theorem Trs.dps {H : Hp} : ∀ {as : List Addr} {ls : List Lk}, Trs H as ls → DpAll K H (as.map V.ref) (ls.map trD)
  | _, _, .nil => .nil
  | _, _, .cons h t => .cons h.dp (Trs.dps t)
end
theorem VI_add (a b : Nat) : V.int ((a : Int) + (b : Int)) = VI (a + b) := by
  show V.int _ = V.int _
  congr 1
section
variable {P : Program} {w : World} {K : PySem.W.Frag} {mg : Str → Option Value} {base : Heap}
/-- if (one, other, rounds) not in found: found.append((one, other, rounds)) -/
theorem rd_link {σ : L2.St} {H : Hp} {D : Ends} {x0 x1 x2 x3 x4 x6 : Option V} {F : Addr} {one oth r : Nat} {as : List Addr} {ls : List Lk} (hσ : σ = [x0, x1, x2, x3, x4, some (.ref F), x6, some (VI one), some (VI oth), some (VI r)])
    (hF : H F = some (.lst (as.map V.ref))) (ht : Trs H as ls) (hlen : ls.length ≤ 1000) (stay : ∀ H', Same H H' → (one, oth, r) ∈ ls → D.nx σ H')
    (put : ∀ H' t, (one, oth, r) ∉ ls → (∀ b o, b ≠ F → H b = some o → H' b = some o) → H' F = some (.lst ((as ++ [t]).map V.ref)) → Trs H' (as ++ [t]) (ls ++ [(one, oth, r)]) → D.nx σ H') :
    tIfS (tTest (tOp (rNotInD K) (tTup (tCons (tVar 7) (tCons (tVar 8) (tCons (tVar 9) tNil)))) (tVar 5))) (tDrop (tBM K "list" rAppend (tVar 5) (tCons (tTup (tCons (tVar 7) (tCons (tVar 8) (tCons (tVar 9) tNil)))) tNil))) tNext D σ H := by
  subst hσ
  refine ⟨_, rfl, _, rfl, _, rfl, by show 3 ≤ sizeLine; decide, fun q nq => ?_⟩
  have s1 := Same.new (o := .tup [VI one, VI oth, VI r]) nq
  have hq : Tr (upd H q (.tup [VI one, VI oth, VI r])) q (one, oth, r) := upd_same
  have hF1 := s1 _ _ hF
  have ht1 : Trs (upd H q (.tup [VI one, VI oth, VI r])) as ls := ht.keep fun b xs e => s1 _ _ e
  generalize upd H q (.tup [VI one, VI oth, VI r]) = H1 at s1 hq hF1 ht1 ⊢
  have la : as.length = ls.length := Paired.length ht
  refine ⟨_, rfl, trD (one, oth, r), ls.map trD, hq.dp, .lst (SqL.of hF1) ht1.dps, trD_shaped _, trDs_shaped _, _, rfl, ?_⟩
  rw [trD_any]
  refine ifN2 (fun hno => ?_) fun hin => stay H1 s1 hin
  refine ⟨_, rfl, .inl ⟨rfl, _, SqL.of hF1⟩, _, rfl, _, rfl, _, rfl, by show 3 ≤ sizeLine; decide, fun t nt => ⟨F, _, _, rfl, rfl, Same.new nt _ _ hF1, ?_, ?_⟩⟩
  · rw [List.length_map]
    exact small (by omega)
  · refine put _ t hno (fun b o nb e => ?_) ?_ (pappend (ht1.keep fun b xs e => ?_) (.cons ?_ .nil))
    · rw [upd_ne nb]
      exact Same.new nt _ _ (s1 _ _ e)
    · rw [upd_same, List.map_append]
      rfl
    · rw [upd_ne (lt_ne e hF1)]
      exact Same.new nt _ _ e
    · show (upd (upd H1 t (.tup [VI one, VI oth, VI r])) F _) t = _
      rw [upd_ne (ne_of_none hF1 nt).symm]
      exact upd_same
/-- links between n places, over no round upward alone -/
def Lawful (n : Nat) (pls : List Nat) (ls : List Lk) : Prop := ∀ l ∈ ls, l.1 < n ∧ l.2.1 < n ∧ l.2.2 ≤ 6 ∧ (l.2.2 = 0 → cn pls l.1 < cn pls l.2.1)
def sp_law_some_links (K : PySem.W.Frag) : Sp := fun vs H Q _ => ∃ (p c a : Addr) (pls : List Nat) (many far : Nat), vs = [.ref p, .ref a, VI many, VI far] ∧ PoolOk H p c ∧ SqL K H a (pls.map VI) ∧ a ∉ [p, c] ∧ 1 ≤ pls.length ∧ pls.length ≤ 1000 ∧ many ≤ 1000 ∧ far ≤ 6 ∧
  ∀ (H' : Hp) (r : Addr) (as : List Addr) (ls : List Lk), Nx [p, c] H H' → PoolOk H' p c → H r = none → H' r = some (.lst (as.map V.ref)) → Trs H' as ls → ls.Nodup → ls.length ≤ many → Lawful pls.length pls ls → Q (.ref r) H'
theorem ok_law_some_links (T : Txt K mg) : FnOk P w K mg base CX0 2 T.f_law_some_links T.d_law_some_links ["_law_pool_here", "_law_places", "_law_many", "_law_far"] (sp_law_some_links K) := by
  refine T.F_law_some_links.ok sc_law_some_links (fun vs H Q E h => ?_) (fun cdv A outer s H vs Q E hr h => ?_)
  · obtain ⟨p, c, a, pls, many, far, rfl, _⟩ := h
    rfl
  · obtain ⟨p, c, a, pls, many, far, rfl, hp, ha, nac, n1, n2, hm, hf, q⟩ := h
    refine ⟨_, (pss_cons (ps_set (i := 4) sc_law_some_links.nd rfl (.inl rfl) (pe_callB call_len_seq (by rfl) T.n_len (by decide +kernel) (pa_cons (pv 1) pa_nil)))
      (pss_cons (ps_set (i := 5) sc_law_some_links.nd rfl (.inl rfl) (pe_lst pa_nil))
      (pss_cons (ps_for PassesOwn.never rfl (pi_range1 (by rfl) T.n_range (pa_cons (pv 2) pa_nil)) (pg_name (i := 6) sc_law_some_links.nd rfl (.inl rfl)) (pss_cons (ps_set (i := 7) sc_law_some_links.nd rfl (.inl rfl) (pe_call (ok_law_draw T) (hr.mono (by decide)) (by rfl) T.m_law_draw T.F_law_draw.kp (b_law_draw T) .nil pass0 (pa_cons (pv 0) (pa_cons (pv 4) pa_nil))))
      (pss_cons (ps_set (i := 8) sc_law_some_links.nd rfl (.inl rfl) (pe_call (ok_law_draw T) (hr.mono (by decide)) (by rfl) T.m_law_draw T.F_law_draw.kp (b_law_draw T) .nil pass0 (pa_cons (pv 0) (pa_cons (pv 4) pa_nil))))
      (pss_cons (ps_set (i := 9) sc_law_some_links.nd rfl (.inl rfl) (pe_call (ok_law_draw T) (hr.mono (by decide)) (by rfl) T.m_law_draw T.F_law_draw.kp (b_law_draw T) .nil pass0 (pa_cons (pv 0) (pa_cons (pe_op op_add (pv 3) pe_int) pa_nil))))
      (pss_cons (ps_if (pt_cmpR op_ge (pe_ix ix_list (pv 1) (pv 7) (fun _ _ => rfl)) (pe_ix ix_list (pv 1) (pv 8) (fun _ _ => rfl)) (nomark _)) (pss_one (ps_set (i := 9) sc_law_some_links.nd rfl (.inl rfl) (pe_callB (call_max2 rfl) (by rfl) T.n_max (by decide +kernel) (pa_cons pe_int (pa_cons (pv 9) pa_nil))))) pss_nil)
      (pss_one (ps_if (pt_cmpR (op_notInD (hu65 hr)) (pe_tup (pa_cons (pv 7) (pa_cons (pv 8) (pa_cons (pv 9) pa_nil)))) (pv 5) (by rfl)) (pss_one (ps_expr (pe_bm PySem.F.plainAttrs_list PySem.F.slot_list_append PySem.F.type_list_append mt_append (pv 5) (pa_cons (pe_tup (pa_cons (pv 7) (pa_cons (pv 8) (pa_cons (pv 9) pa_nil)))) pa_nil)))) pss_nil)))))))
      (pss_one (ps_ret (pv 5)))))), ?_⟩
    refine rd_set ⟨_, rfl, a, _, rfl, .inl ha, ?_⟩
    rw [List.length_map]
    refine rd_set ⟨Nat.zero_le _, fun F nF => ?_⟩
    have s1 := Same.new (o := .lst []) nF
    refine rd_seq (rd_for ⟨_, rfl, (many : Int), rfl, by omega, by omega, ?_⟩)
    refine for_it walk_range (fun k σ H' => ∃ (y6 y7 y8 y9 : Option V) (as : List Addr) (ls : List Lk), σ = [some (.ref p), some (.ref a), some (VI many), some (VI far), some (VI pls.length), some (.ref F), y6, y7, y8, y9] ∧ Nx [p, c] H H' ∧ PoolOk H' p c ∧
      H' F = some (.lst (as.map V.ref)) ∧ Trs H' as ls ∧ ls.Nodup ∧ ls.length ≤ k ∧ Lawful pls.length pls ls) ⟨_, _, _, _, [], [], rfl, Nx.of s1, hp.same s1, upd_same, .nil, List.nodup_nil, Nat.le_refl _, fun l h => by simp at h⟩ (fun _ _ _ _ _ => trivial) (fun k v σ Ha Hb hk ha' hy => ?_) fun σ H3 h3 => ?_
    · obtain ⟨rfl, rfl⟩ := hy
      obtain ⟨y6, y7, y8, y9, as, ls, rfl, nx, pk, hF, ht, hnd, hlen, hlaw⟩ := ha'
      -- the three draws
      refine rd_set ⟨_, rfl, _, rfl, p, c, pls.length, rfl, pk, n1, by omega, fun one H4 h1 pk4 nx4 => ?_⟩
      refine rd_set ⟨_, rfl, _, rfl, p, c, pls.length, rfl, pk4, n1, by omega, fun oth H5 h2 pk5 nx5 => ?_⟩
      refine rd_set ⟨_, rfl, _, rfl, _, _, rfl, rfl, p, c, far + 1, rfl, pk5, by omega, by omega, fun rd H6 h3 pk6 nx6 => ?_⟩
      have nx46 : Nx [p, c] Hb H6 := Nx.trans nx4 (Nx.trans nx5 nx6)
      have nx06 := Nx.trans nx nx46
      have hF6 := nx46 _ _ (hp.ne nF) hF
      have ht6 : Trs H6 as ls := ht.keep (pk.tup nx46)
      have hA6 : SqL K H6 a (pls.map VI) := Nx.sqL nx06 nac ha
      have g1 : (pls.map VI)[one]? = some (VI (cn pls one)) := by rw [List.getElem?_map, get_cn h1]; rfl
      have g2 : (pls.map VI)[oth]? = some (VI (cn pls oth)) := by rw [List.getElem?_map, get_cn h2]; rfl
      -- the end of the turn, whatever the rounds are
      have fin : ∀ r : Nat, r ≤ 6 → (r = 0 → cn pls one < cn pls oth) → _ := fun r hr6 hr0 => rd_link (K := K) (D := { nx := fun σ H' => ∃ (y6 y7 y8 y9 : Option V) (as : List Addr) (ls : List Lk), σ = [some (.ref p), some (.ref a), some (VI many), some (VI far), some (VI pls.length), some (.ref F), y6, y7, y8, y9] ∧ Nx [p, c] H H' ∧ PoolOk H' p c ∧ H' F = some (.lst (as.map V.ref)) ∧ Trs H' as ls ∧ ls.Nodup ∧ ls.length ≤ k + 1 ∧ Lawful pls.length pls ls, rt := fun _ _ => True }) (x0 := some (.ref p)) (x1 := some (.ref a)) (x2 := some (VI many)) (x3 := some (VI far)) (x4 := some (VI pls.length)) (x6 := some (.int (0 + (k : Int)))) (one := one) (oth := oth) (r := r) rfl hF6 ht6 (by omega)
        (fun H' s _ => ⟨_, _, _, _, as, ls, rfl, Nx.trans nx06 (Nx.of s), pk6.same s, s _ _ hF6, ht6.keep fun b xs e => s _ _ e, hnd, by omega, hlaw⟩)
        (fun H' t hno kp hF' ht' => ⟨_, _, _, _, as ++ [t], ls ++ [(one, oth, r)], rfl, fun b o nb e => kp b o (ne_of_none e nF) (nx06 b o nb e), pk6.nx fun b o hb e => kp b o (fun z => hp.ne nF (by rcases hb with h | h <;> simp [← z, h])) e, hF', ht', nd_snoc hnd hno, by rw [List.length_append]; show ls.length + 1 ≤ k + 1; omega, fun l hl => by
          rcases List.mem_append.mp hl with h | h
          · exact hlaw l h
          · have e : l = (one, oth, r) := by simpa using h
            subst e
            exact ⟨h1, h2, hr6, hr0⟩⟩)
      refine rd_seq ⟨_, rfl, _, rfl, a, _, _, _, rfl, rfl, hA6, at_ rfl g1, _, rfl, _, rfl, a, _, _, _, rfl, rfl, hA6, at_ rfl g2, _, _, rfl, rfl, _, rfl, if2 (fun hge => ?_) fun hlt => ?_⟩
      · refine ⟨_, rfl, _, _, rfl, ?_⟩
        have e : V.int (if (rd : Int) > 1 then (rd : Int) else 1) = VI (if rd > 1 then rd else 1) := by
          by_cases g : rd > 1
          · rw [if_pos g, if_pos (by omega)]
          · rw [if_neg g, if_neg (by omega)]
            rfl
        have lawv : (if rd > 1 then rd else 1) ≤ 6 ∧ ((if rd > 1 then rd else 1) = 0 → cn pls one < cn pls oth) := by
          by_cases g : rd > 1
          · rw [if_pos g]; exact ⟨by omega, fun z => by omega⟩
          · rw [if_neg g]; exact ⟨by omega, fun z => by omega⟩
        have go := fin _ lawv.1 lawv.2
        rw [← e] at go
        exact go
      · have hlt' : cn pls one < cn pls oth := by omega
        exact fin rd (by omega) fun _ => hlt'
    · obtain ⟨y6, y7, y8, y9, as, ls, rfl, nx, pk, hF, ht, hnd, hlen, hlaw⟩ := h3
      have e : ((many : Int)).toNat = many := by omega
      rw [e] at hlen
      exact ⟨_, rfl, q H3 F as ls nx pk nF hF ht hnd hlen hlaw⟩
end
end K24

/-! A ring of links. -/
namespace K24
open PySem PySem.Spec PyProof.Rows L2
theorem nodup_range_map {α : Type} [DecidableEq α] (f : Nat → α) : ∀ n : Nat, (∀ i j, i < n → j < n → f i = f j → i = j) → ((List.range n).map f).Nodup
  | 0, _ => by simp
  | n + 1, h => by
    rw [List.range_succ, List.map_append]
    refine nd_snoc (nodup_range_map f n fun i j hi hj => h i j (by omega) (by omega)) fun m => ?_
    obtain ⟨i, hi, e⟩ := List.mem_map.mp m
    have hi' := List.mem_range.mp hi
    have := h i n (by omega) (by omega) e
    omega
/-- the links of a ring: from the i-th step of the row to the next one -/
def ringL (n : Nat) (ws : List Nat) (r : Nat) (i : Nat) : Lk := if i + 1 < n then (cn ws i, cn ws (i + 1), 0) else (cn ws i, cn ws 0, r)
theorem at_neg1 {xs : List V} {v : V} {n : Nat} (hn : xs.length = n + 1) (h : xs[n]? = some v) : atI xs (-1) = some v := by
  unfold atI ixN
  rw [if_neg (by decide), if_pos (by omega), hn]
  have e : (-1 + ((n + 1 : Nat) : Int)).toNat = n := by omega
  rw [e]
  exact h
section
variable {P : Program} {w : World} {K : PySem.W.Frag} {mg : Str → Option Value} {base : Heap}
def sp_law_ring_links (K : PySem.W.Frag) : Sp := fun vs H Q _ => ∃ (p c a : Addr) (pls : List Nat), vs = [.ref p, .ref a] ∧ PoolOk H p c ∧ SqL K H a (pls.map VI) ∧ a ∉ [p, c] ∧ pls.Perm (List.range pls.length) ∧ 1 ≤ pls.length ∧ pls.length ≤ 1000 ∧
  ∀ (H' : Hp) (r : Addr) (as : List Addr) (ls : List Lk), Nx [p, c] H H' → PoolOk H' p c → H r = none → H' r = some (.lst (as.map V.ref)) → Trs H' as ls → ls.Nodup → ls.length = pls.length → Lawful pls.length pls ls → Q (.ref r) H'
theorem ok_law_ring_links (T : Txt K mg) : FnOk P w K mg base CX0 2 T.f_law_ring_links T.d_law_ring_links ["_law_pool_here", "_law_places"] (sp_law_ring_links K) := by
  refine T.F_law_ring_links.ok sc_law_ring_links (fun vs H Q E h => ?_) (fun cdv A outer s H vs Q E hr h => ?_)
  · obtain ⟨p, c, a, pls, rfl, _⟩ := h
    rfl
  · obtain ⟨p, c, a, pls, rfl, hp, ha, nac, perm, n1, n2, q⟩ := h
    have nd : pls.Nodup := perm.nodup_iff.mpr List.nodup_range
    have find : ∀ k, k < pls.length → ∃ j, pls[j]? = some k := fun k hk => by
      have : k ∈ pls := perm.mem_iff.mpr (List.mem_range.mpr hk)
      obtain ⟨j, hj, e⟩ := List.getElem_of_mem this
      exact ⟨j, by rw [List.getElem?_eq_getElem hj, e]⟩
    have flat : (pls.map VI).all flatV = true := List.all_eq_true.mpr fun v m => by
      obtain ⟨x, _, rfl⟩ := List.mem_map.mp m
      rfl
    refine ⟨_, (pss_cons (ps_setLc (i := 2) (own := [("_law_k", 4)]) (g := (gName 4)) (te := (tBM K "list" (rIndex K) (tVar 1) (tCons (tVar 4) tNil))) (by rfl) sc_law_ring_links.nd rfl rfl (sw_true rfl rfl rfl (by decide +kernel)) (pi_range1 (by rfl) T.n_range (pa_cons (pe_callB call_len_seq (by rfl) T.n_len (by decide +kernel) (pa_cons (pv 1) pa_nil)) pa_nil)) (blkOk_by (by kernel_rfl)) (fun _ _ _ _ _ => (pg_name (i := 4) sc_law_ring_links.nd rfl (.inl rfl))) (fun _ _ _ _ _ => pts_nil) (fun _ _ _ _ _ => (pe_bm PySem.F.plainAttrs_list PySem.F.slot_list_index PySem.F.type_list_index mt_index (pv 1) (pa_cons (pv 4) pa_nil))))
      (pss_cons (ps_set (i := 3) sc_law_ring_links.nd rfl (.inl rfl) (pe_lst pa_nil))
      (pss_cons (ps_for PassesOwn.never rfl (pi_range1 (by rfl) T.n_range (pa_cons (pe_op op_sub (pe_callB call_len_seq (by rfl) T.n_len (by decide +kernel) (pa_cons (pv 2) pa_nil)) pe_int) pa_nil)) (pg_name (i := 4) sc_law_ring_links.nd rfl (.inl rfl)) (pss_one (ps_expr (pe_bm PySem.F.plainAttrs_list PySem.F.slot_list_append PySem.F.type_list_append mt_append (pv 3) (pa_cons (pe_tup (pa_cons (pe_ix ix_list (pv 2) (pv 4) (fun _ _ => rfl)) (pa_cons (pe_ix ix_list (pv 2) (pe_op op_add (pv 4) pe_int) (fun _ _ => rfl)) (pa_cons pe_int pa_nil)))) pa_nil)))))
      (pss_one (ps_ret (pe_op op_cat (pv 3) (pe_lst (pa_cons (pe_tup (pa_cons (pe_ix ix_list (pv 2) (pe_un un_neg pe_int) (fun _ _ => rfl)) (pa_cons (pe_ix ix_list (pv 2) pe_int (fun _ _ => rfl)) (pa_cons (pe_op op_add pe_int (pe_call (ok_law_draw T) (hr.mono (by decide)) (by rfl) T.m_law_draw T.F_law_draw.kp (b_law_draw T) .nil pass0 (pa_cons (pv 0) (pa_cons pe_int pa_nil)))) pa_nil)))) pa_nil)))))))), ?_⟩
    refine rd_set ?_
    refine ⟨_, rfl, a, _, rfl, .inl ha, ((pls.map VI).length : Int), rfl, by rw [List.length_map]; omega, by rw [List.length_map]; omega, fun R nR => lc_it walk_range (fun i H' => Same H H' ∧ ∃ ws : List Nat, H' R = some (.lst (ws.map VI)) ∧ ws.length = i ∧ ∀ k j : Nat, ws[k]? = some j → pls[j]? = some k)
      ⟨Same.new nR, [], upd_same, rfl, fun k j h => absurd h (by show ¬ ([] : List Nat)[k]? = some j; rw [List.getElem?_nil]; exact fun z => nomatch z)⟩ (fun _ _ _ _ => trivial) (fun i v Ha Hb hi ha' hy => ?_) fun H1 h1 => ?_⟩
    · obtain ⟨rfl, rfl⟩ := hy
      obtain ⟨sa, ws, hR, hw, hws⟩ := ha'
      rw [List.length_map] at hi
      obtain ⟨j, hj⟩ := find i (by omega)
      have e0 : V.int (0 + (i : Int)) = VI i := by congr 1; omega
      refine ⟨rfl, _, rfl, .inl ⟨rfl, _, Same.seq sa ha⟩, _, rfl, a, _, _, j, VI i, rfl, rfl, Same.seq sa ha, rfl, flat, by rw [List.getElem?_map, hj]; rfl, ?_, fun m z hm hz => ?_, _, hR, ?_, fun c' o e => ?_, ws ++ [j], ?_, ?_, fun k j' hk => ?_⟩
      · show ((i : Int) == 0 + (i : Int)) = true
        exact beq_iff_eq.mpr (by omega)
      · rw [List.getElem?_map] at hz
        obtain ⟨x, hx, rfl⟩ := Option.map_eq_some_iff.mp hz
        show ((x : Int) == 0 + (i : Int)) = false
        refine beq_eq_false_iff_ne.mpr fun z => ?_
        have ex : x = i := by omega
        subst ex
        have := nd_ix nd hx hj
        omega
      · rw [List.length_map]
        exact small (by omega)
      · rw [upd_ne (ne_of_none e nR)]
        exact sa _ _ e
      · rw [upd_same, List.map_append]
        rfl
      · rw [List.length_append, hw]
        rfl
      · by_cases g : k < ws.length
        · rw [List.getElem?_append_left g] at hk
          exact hws k j' hk
        · rw [List.getElem?_append_right (by omega)] at hk
          have ek : k - ws.length = 0 := by
            have := (List.getElem?_eq_some_iff.mp hk).1
            simp at this
            omega
          rw [ek] at hk
          have ej : j = j' := by simpa using hk
          have eki : k = i := by omega
          rw [← ej, eki]
          exact hj
    · obtain ⟨s1, ws, hR, hw, hws⟩ := h1
      have e1 : (((pls.map VI).length : Int)).toNat = pls.length := by rw [List.length_map]; omega
      rw [e1] at hw
      have wlt : ∀ k, k < pls.length → cn ws k < pls.length ∧ cn pls (cn ws k) = k := fun k hk => by
        have h1 := get_cn (c := ws) (i := k) (by omega)
        have h2 := hws k _ h1
        exact ⟨(List.getElem?_eq_some_iff.mp h2).1, cn_get h2⟩
      have wget : ∀ k, k < pls.length → (ws.map VI)[k]? = some (VI (cn ws k)) := fun k hk => by
        rw [List.getElem?_map, get_cn (by omega)]
        rfl
      -- found = []
      refine rd_set ⟨Nat.zero_le _, fun F nF => ?_⟩
      have s2 := Same.new (o := .lst []) nF
      have hR2 := s2 _ _ hR
      have nRF : R ≠ F := ne_of_none hR nF
      have nF0 := Same.none s1 nF
      have hF2 : (upd H1 F (.lst [])) F = some (.lst []) := upd_same
      have s12 := Same.trans s1 s2
      generalize upd H1 F (.lst []) = H2 at s12 hR2 hF2 ⊢
      refine rd_seq (rd_for ⟨_, rfl, R, _, rfl, .inl (SqL.of hR2), _, _, rfl, rfl, ((ws.map VI).length : Int) - 1, rfl, by rw [List.length_map]; omega, by rw [List.length_map]; omega, ?_⟩)
      refine for_it walk_range (fun k σ H' => ∃ (y : Option V) (as : List Addr), σ = [some (.ref p), some (.ref a), some (.ref R), some (.ref F), y] ∧ Same H H' ∧ H' R = some (.lst (ws.map VI)) ∧ H' F = some (.lst (as.map V.ref)) ∧ Trs H' as ((List.range k).map (ringL pls.length ws 0)))
        ⟨_, [], rfl, s12, hR2, hF2, .nil⟩ (fun _ _ _ _ _ => trivial) (fun k v σ Ha Hb hk ha' hy => ?_) fun σ H3 h3 => ?_
      · obtain ⟨rfl, rfl⟩ := hy
        obtain ⟨y, as, rfl, sa, hRa, hFa, hta⟩ := ha'
        have hk' : k + 1 < pls.length := by
          rw [List.length_map] at hk
          omega
        have la : as.length = k := by
          have := Paired.length hta
          rw [List.length_map, List.length_range] at this
          exact this
        refine ⟨_, rfl, .inl ⟨rfl, _, SqL.of hFa⟩, _, rfl, _, rfl, R, _, _, _, rfl, rfl, SqL.of hRa, at_ (j := k) (by omega) (wget k (by omega)), _, rfl, _, rfl, _, _, rfl, rfl, R, _, _, _, rfl, rfl, SqL.of hRa, at_ (j := k + 1) (by omega) (wget (k + 1) hk'), by show 3 ≤ sizeLine; decide, fun t nt => ?_⟩
        have st := Same.new (o := .tup [VI (cn ws k), VI (cn ws (k + 1)), .int 0]) nt
        refine ⟨F, _, _, rfl, rfl, st _ _ hFa, ?_, _, as ++ [t], rfl, fun b o e => ?_, ?_, ?_, ?_⟩
        · rw [List.length_map]
          exact small (by omega)
        · rw [upd_ne (ne_of_none e nF0)]
          exact st _ _ (sa _ _ e)
        · rw [upd_ne nRF]
          exact st _ _ hRa
        · rw [upd_same, List.map_append]
          rfl
        · rw [List.range_succ, List.map_append]
          refine pappend (hta.keep fun b xs e => ?_) (.cons ?_ .nil)
          · rw [upd_ne (lt_ne e hFa)]
            exact st _ _ e
          · unfold Tr ringL
            rw [if_pos hk', upd_ne (ne_of_none hFa nt).symm]
            exact upd_same
      · obtain ⟨y, as, rfl, s3, hR3, hF3, ht3⟩ := h3
        have ek : (((ws.map VI).length : Int) - 1).toNat = pls.length - 1 := by rw [List.length_map]; omega
        rw [ek] at ht3
        obtain ⟨m, em⟩ : ∃ m, pls.length = m + 1 := ⟨pls.length - 1, by omega⟩
        rw [show pls.length - 1 = m by omega] at ht3
        have lw : (ws.map VI).length = m + 1 := by rw [List.length_map]; omega
        have hp3 := hp.same s3
        dsimp only
        refine rd_ret ⟨_, rfl, _, rfl, 1, rfl, R, _, _, _, rfl, rfl, SqL.of hR3, at_neg1 lw (wget m (by omega)), _, rfl, R, _, _, _, rfl, rfl, SqL.of hR3, at_ (j := 0) rfl (wget 0 (by omega)), _, rfl, p, c, 2, rfl, hp3, by omega, by omega, fun k H4 hk pk4 nx4 => ?_⟩
        have nF3 : F ∉ [p, c] := hp.ne nF0
        have hF4 := nx4 _ _ nF3 hF3
        have ht4 : Trs H4 as ((List.range m).map (ringL pls.length ws 0)) := ht3.keep (hp3.tup nx4)
        refine ⟨_, _, rfl, rfl, by show 3 ≤ sizeLine; decide, fun t nt => ⟨by show 1 ≤ sizeLine; decide, fun l nl => ⟨F, l, as.map V.ref, [V.ref t], rfl, rfl, ?_⟩⟩⟩
        have st := Same.new (o := .tup [VI (cn ws m), VI (cn ws 0), .int (1 + (k : Int))]) nt
        have sl := Same.new (o := .lst [V.ref t]) nl
        refine ⟨sl _ _ (st _ _ hF4), upd_same, ?_, fun r nr => ?_⟩
        · rw [List.length_map, Paired.length ht4, List.length_map, List.length_range]
          exact Nat.le_of_lt (small (by show m + 1 ≤ 1000000; omega))
        · have sr := Same.new (o := .lst (as.map V.ref ++ [V.ref t])) nr
          have sall := Same.trans st (Same.trans sl sr)
          have nx : Nx [p, c] H4 _ := Nx.of sall
          have r0 : H r = none := by
            rcases Nx.none (Nx.trans (Nx.of s3) nx4) (Same.none (Same.trans st sl) nr) with m' | e
            · exfalso
              obtain ⟨_, x, y, zs, q1, q2⟩ := pk4
              have nr4 := Same.none (Same.trans st sl) nr
              rcases List.mem_cons.mp m' with z | z
              · rw [z, q1] at nr4
                cases nr4
              · have z' : r = c := by simpa using z
                rw [z', q2] at nr4
                cases nr4
            · exact e
          have htr : Tr (upd (upd (upd H4 t (.tup [VI (cn ws m), VI (cn ws 0), .int (1 + (k : Int))])) l (.lst [V.ref t])) r (.lst (as.map V.ref ++ [V.ref t]))) t (cn ws m, cn ws 0, 1 + k) := by
            have e : V.int (1 + (k : Int)) = VI (1 + k) := VI_add 1 k
            have h0 : (upd H4 t (.tup [VI (cn ws m), VI (cn ws 0), .int (1 + (k : Int))])) t = some (.tup [VI (cn ws m), VI (cn ws 0), VI (1 + k)]) := by rw [upd_same, e]
            exact sr _ _ (sl _ _ h0)
          have els : (List.range pls.length).map (ringL pls.length ws (1 + k)) = (List.range m).map (ringL pls.length ws 0) ++ [(cn ws m, cn ws 0, 1 + k)] := by
            rw [em, List.range_succ, List.map_append]
            congr 1
            · refine List.map_congr_left fun i hi => ?_
              have := List.mem_range.mp hi
              unfold ringL
              rw [if_pos (by omega), if_pos (by omega)]
            · show [ringL (m + 1) ws (1 + k) m] = _
              unfold ringL
              rw [if_neg (by omega)]
          refine q _ r (as ++ [t]) ((List.range pls.length).map (ringL pls.length ws (1 + k))) (Nx.trans (Nx.of s3) (Nx.trans nx4 nx)) (pk4.same sall) r0 (by rw [upd_same, List.map_append]; rfl) ?_ ?_ ?_ ?_
          · rw [els]
            exact pappend (ht4.keep fun b xs e => sall _ _ e) (.cons htr .nil)
          · refine nodup_range_map _ _ fun i j hi hj e => ?_
            have h1 : (ringL pls.length ws (1 + k) i).1 = cn ws i := by unfold ringL; split <;> rfl
            have h2 : (ringL pls.length ws (1 + k) j).1 = cn ws j := by unfold ringL; split <;> rfl
            have e3 : cn ws i = cn ws j := by rw [← h1, ← h2, e]
            rw [← (wlt i hi).2, ← (wlt j hj).2, e3]
          · rw [List.length_map, List.length_range]
          · intro x hx
            obtain ⟨i, hi, rfl⟩ := List.mem_map.mp hx
            have hi' := List.mem_range.mp hi
            obtain ⟨w1, w2⟩ := wlt i hi'
            unfold ringL
            by_cases g : i + 1 < pls.length
            · rw [if_pos g]
              obtain ⟨w3, w4⟩ := wlt (i + 1) g
              refine ⟨w1, w3, Nat.zero_le 6, fun _ => ?_⟩
              show cn pls (cn ws i) < cn pls (cn ws (i + 1))
              rw [w2, w4]
              omega
            · rw [if_neg g]
              obtain ⟨w3, w4⟩ := wlt 0 (by omega)
              exact ⟨w1, w3, by show 1 + k ≤ 6; omega, fun z => by
                have z' : 1 + k = 0 := z
                omega⟩
end
end K24

/-! A spec drawn. -/
namespace K24
open PySem PySem.Spec PyProof.Rows L2
theorem rgV0 (n : Nat) : rgV 0 (n : Int) = (List.range n).map VI := by
  unfold rgV
  rw [show ((n : Int) - 0).toNat = n by omega]
  refine List.map_congr_left fun i _ => ?_
  show V.int (0 + (i : Int)) = V.int (i : Int)
  rw [Int.zero_add]
theorem far_get {k : Nat} (h : k < 4) : ∃ f : Nat, f ≤ 6 ∧ ([V.int 1, V.int 2, V.int 3, V.int 6] : List V)[k]? = some (VI f) :=
  match k, h with
  | 0, _ => ⟨1, by decide, rfl⟩
  | 1, _ => ⟨2, by decide, rfl⟩
  | 2, _ => ⟨3, by decide, rfl⟩
  | 3, _ => ⟨6, by decide, rfl⟩
  | k + 4, h => absurd h (by omega)
theorem back_get {k : Nat} (h : k < 2) : ∃ f : Nat, 1 ≤ f ∧ f ≤ 2 ∧ ([V.int 1, V.int 2] : List V)[k]? = some (VI f) :=
  match k, h with
  | 0, _ => ⟨1, by decide, by decide, rfl⟩
  | 1, _ => ⟨2, by decide, by decide, rfl⟩
  | k + 2, h => absurd h (by omega)
theorem ptake {α β : Type} {F : α → β → Prop} : ∀ {l1 : List α} {l2 : List β} (k : Nat), Paired F l1 l2 → Paired F (l1.take k) (l2.take k)
  | _, _, 0, _ => by rw [List.take_zero, List.take_zero]; exact .nil
  | _, _, _ + 1, .nil => .nil
  | _, _, k + 1, .cons h t => .cons h (ptake k t)
theorem cut_ref (as : List Addr) (k : Nat) : ∃ j, cutV (as.map V.ref) none (some (k : Int)) = (as.take j).map V.ref := by
  refine ⟨HT.sIx as.length as.length (some (k : Int)), ?_⟩
  unfold cutV
  rw [HT.sIx_none, List.length_map, List.drop_zero, Nat.sub_zero, List.map_take]
def SpecOk (H : Hp) (s : Addr) (n : Nat) (ls ms : List Lk) : Prop := ∃ (tn tb : Addr) (as bs : List Addr), H s = some (.tup [VI n, .ref tn, .ref tb]) ∧ H tn = some (.tup (as.map V.ref)) ∧ H tb = some (.tup (bs.map V.ref)) ∧ Trs H as ls ∧ Trs H bs ms
theorem SpecOk.tup {H H' : Hp} {s : Addr} {n : Nat} {ls ms : List Lk} (h : SpecOk H s n ls ms) (k : ∀ b xs, H b = some (.tup xs) → H' b = some (.tup xs)) : SpecOk H' s n ls ms :=
  let ⟨tn, tb, as, bs, h1, h2, h3, h4, h5⟩ := h
  ⟨tn, tb, as, bs, k _ _ h1, k _ _ h2, k _ _ h3, h4.keep k, h5.keep k⟩
theorem SpecOk.same {H H' : Hp} {s : Addr} {n : Nat} {ls ms : List Lk} (h : SpecOk H s n ls ms) (k : Same H H') : SpecOk H' s n ls ms := h.tup fun b xs e => k _ _ e
structure Good (n : Nat) (ls ms : List Lk) : Prop where
  n1 : 1 ≤ n
  n4 : n ≤ 4
  la : ls.length ≤ 40
  lb : ms.length ≤ 40
  da : ls.Nodup
  db : ms.Nodup
  rise : ∃ pls, Lawful n pls ls ∧ Lawful n pls ms
section
variable {P : Program} {w : World} {K : PySem.W.Frag} {mg : Str → Option Value} {base : Heap}
theorem rd_specEnd {σ : L2.St} {H : Hp} {D : Ends} {x0 x1 x3 x4 x5 x8 x9 x10 x11 : Option V} {n : Nat} {A B : Addr} {as bs : List Addr} {ls ms : List Lk} (hσ : σ = [x0, x1, some (VI n), x3, x4, x5, some (.ref A), some (.ref B), x8, x9, x10, x11])
    (hA : H A = some (.lst (as.map V.ref))) (hB : H B = some (.lst (bs.map V.ref))) (ht : Trs H as ls) (hu : Trs H bs ms) (q : ∀ s H', Same H H' → SpecOk H' s n ls ms → D.rt (.ref s) H') :
    tRet (tTup (tCons (tVar 2) (tCons (tCB (rTupOf K) (tCons (tVar 6) tNil)) (tCons (tCB (rTupOf K) (tCons (tVar 7) tNil)) tNil)))) D σ H := by
  subst hσ
  refine rd_ret ⟨_, rfl, _, rfl, A, _, rfl, .inl ⟨SqL.of hA, fun t nt => ?_⟩⟩
  have s1 := Same.new (o := .tup (as.map V.ref)) nt
  have ht1 : (upd H t (.tup (as.map V.ref))) t = _ := upd_same
  generalize upd H t (.tup (as.map V.ref)) = H1 at s1 ht1 ⊢
  refine ⟨_, rfl, B, _, rfl, .inl ⟨SqL.of (s1 _ _ hB), fun u nu => ?_⟩⟩
  have s2 := Same.new (o := .tup (bs.map V.ref)) nu
  have hu1 : (upd H1 u (.tup (bs.map V.ref))) u = _ := upd_same
  have s12 := Same.trans s1 s2
  have ht2 := s2 _ _ ht1
  generalize upd H1 u (.tup (bs.map V.ref)) = H2 at s12 hu1 ht2 ⊢
  refine ⟨by show 3 ≤ sizeLine; decide, fun s ns => ?_⟩
  have s3 := Same.new (o := .tup [VI n, .ref t, .ref u]) ns
  have s13 := Same.trans s12 s3
  exact q s _ s13 ⟨t, u, as, bs, upd_same, s3 _ _ ht2, s3 _ _ hu1, ht.keep fun b xs e => s13 _ _ e, hu.keep fun b xs e => s13 _ _ e⟩
/-- back = (.., .., ..); if back not in found: found.append(back) -/
theorem rd_back {σ : L2.St} {H : Hp} {D : Ends} {x0 x1 x2 x3 x4 x5 x6 x8 x9 x10 : Option V} {F t : Addr} {l : Lk} {as : List Addr} {ls : List Lk} (hσ : σ = [x0, x1, x2, x3, x4, x5, x6, some (.ref F), x8, x9, x10, some (.ref t)])
    (hF : H F = some (.lst (as.map V.ref))) (ht : Trs H as ls) (htt : Tr H t l) (hlen : ls.length ≤ 1000) (stay : l ∈ ls → D.nx σ H)
    (put : ∀ H', l ∉ ls → (∀ b o, b ≠ F → H b = some o → H' b = some o) → H' F = some (.lst ((as ++ [t]).map V.ref)) → Trs H' (as ++ [t]) (ls ++ [l]) → D.nx σ H') :
    tIfS (tTest (tOp (rNotInD K) (tVar 11) (tVar 7))) (tDrop (tBM K "list" rAppend (tVar 7) (tCons (tVar 11) tNil))) tNext D σ H := by
  subst hσ
  have la : as.length = ls.length := Paired.length ht
  refine ⟨_, rfl, _, rfl, trD l, ls.map trD, htt.dp, .lst (SqL.of hF) ht.dps, trD_shaped _, trDs_shaped _, _, rfl, ?_⟩
  rw [trD_any]
  refine ifN2 (fun hno => ?_) fun hin => stay hin
  refine ⟨_, rfl, .inl ⟨rfl, _, SqL.of hF⟩, _, rfl, F, _, _, rfl, rfl, hF, ?_, ?_⟩
  · rw [List.length_map]
    exact small (by omega)
  · refine put _ hno (fun b o nb e => ?_) ?_ (pappend (ht.keep fun b xs e => ?_) (.cons ?_ .nil))
    · rw [upd_ne nb]
      exact e
    · rw [upd_same, List.map_append]
      rfl
    · rw [upd_ne (lt_ne e hF)]
      exact e
    · show (upd H F _) t = _
      rw [upd_ne (lt_ne htt hF)]
      exact htt
def sp_law_spec : Sp := fun vs H Q _ => ∃ (p c : Addr), vs = [.ref p, .int 4] ∧ PoolOk H p c ∧
  ∀ (H' : Hp) (s : Addr) (n : Nat) (ls ms : List Lk), Nx [p, c] H H' → PoolOk H' p c → SpecOk H' s n ls ms → Good n ls ms → Q (.ref s) H'
theorem ok_law_spec (T : Txt K mg) : FnOk P w K mg base CX0 3 T.f_law_spec T.d_law_spec ["_law_pool_here", "_law_most"] sp_law_spec := by
  refine T.F_law_spec.ok sc_law_spec (fun vs H Q E h => ?_) (fun cdv A outer s H vs Q E hr h => ?_)
  · obtain ⟨p, c, rfl, _⟩ := h
    rfl
  · obtain ⟨p, c, rfl, hp, q⟩ := h
    refine ⟨_, (pss_cons (ps_set (i := 2) sc_law_spec.nd rfl (.inl rfl) (pe_op op_add pe_int (pe_call (ok_law_draw T) (hr.mono (by decide)) (by rfl) T.m_law_draw T.F_law_draw.kp (b_law_draw T) .nil pass0 (pa_cons (pv 0) (pa_cons (pv 1) pa_nil)))))
      (pss_cons (ps_set (i := 3) sc_law_spec.nd rfl (.inl rfl) (pe_call (ok_law_mixed T) (hr.mono (by decide)) (by rfl) T.m_law_mixed T.F_law_mixed.kp (b_law_mixed T) .nil pass0 (pa_cons (pv 0) (pa_cons (pe_listRg rfl (by rfl) T.n_list (prg_1 (by rfl) T.n_range (pv 2))) pa_nil))))
      (pss_cons (ps_set (i := 4) sc_law_spec.nd rfl (.inl rfl) (pe_call (ok_law_draw T) (hr.mono (by decide)) (by rfl) T.m_law_draw T.F_law_draw.kp (b_law_draw T) .nil pass0 (pa_cons (pv 0) (pa_cons pe_int pa_nil))))
      (pss_cons (ps_set (i := 5) sc_law_spec.nd rfl (.inl rfl) (pe_ix ix_list (pe_lst (pa_cons pe_int (pa_cons pe_int (pa_cons pe_int (pa_cons pe_int pa_nil))))) (pe_call (ok_law_draw T) (hr.mono (by decide)) (by rfl) T.m_law_draw T.F_law_draw.kp (b_law_draw T) .nil pass0 (pa_cons (pv 0) (pa_cons pe_int pa_nil))) (fun _ _ => rfl)))
      (pss_cons (ps_set (i := 6) sc_law_spec.nd rfl (.inl rfl) (pe_call (ok_law_some_links T) (hr.mono (by decide)) (by rfl) T.m_law_some_links T.F_law_some_links.kp (b_law_some_links T) .nil pass0 (pa_cons (pv 0) (pa_cons (pv 3) (pa_cons (pe_op op_add pe_int (pe_call (ok_law_draw T) (hr.mono (by decide)) (by rfl) T.m_law_draw T.F_law_draw.kp (b_law_draw T) .nil pass0 (pa_cons (pv 0) (pa_cons (pe_op op_mul pe_int (pv 2)) pa_nil)))) (pa_cons (pv 5) pa_nil))))))
      (pss_cons (ps_set (i := 7) sc_law_spec.nd rfl (.inl rfl) (pe_call (ok_law_some_links T) (hr.mono (by decide)) (by rfl) T.m_law_some_links T.F_law_some_links.kp (b_law_some_links T) .nil pass0 (pa_cons (pv 0) (pa_cons (pv 3) (pa_cons (pe_call (ok_law_draw T) (hr.mono (by decide)) (by rfl) T.m_law_draw T.F_law_draw.kp (b_law_draw T) .nil pass0 (pa_cons (pv 0) (pa_cons (pe_op op_add (pv 2) pe_int) pa_nil))) (pa_cons (pv 5) pa_nil))))))
      (pss_cons (ps_if (pt_cmpR op_eq (pv 4) pe_int (nomark _)) (pss_one (ps_set (i := 6) sc_law_spec.nd rfl (.inl rfl) (pe_call (ok_law_ring_links T) (hr.mono (by decide)) (by rfl) T.m_law_ring_links T.F_law_ring_links.kp (b_law_ring_links T) .nil pass0 (pa_cons (pv 0) (pa_cons (pv 3) pa_nil))))) (pss_one (ps_if (pt_cmpR op_eq (pv 4) pe_int (nomark _)) (pss_one (ps_set (i := 7) sc_law_spec.nd rfl (.inl rfl) (pe_call (ok_law_ring_links T) (hr.mono (by decide)) (by rfl) T.m_law_ring_links T.F_law_ring_links.kp (b_law_ring_links T) .nil pass0 (pa_cons (pv 0) (pa_cons (pv 3) pa_nil))))) (pss_one (ps_if (pt_cmpR op_eq (pv 4) pe_int (nomark _)) (pss_cons (ps_set (i := 7) sc_law_spec.nd rfl (.inl rfl) (pe_lst pa_nil))
      (pss_one (ps_for PassesOwn.never rfl (pi_list (pv 6)) (pg_tup rfl (pgs_cons (pg_name (i := 8) sc_law_spec.nd rfl (.inl rfl)) (pgs_cons (pg_name (i := 9) sc_law_spec.nd rfl (.inl rfl)) (pgs_cons (pg_name (i := 10) sc_law_spec.nd rfl (.inl rfl)) pgs_nil)))) (pss_cons (ps_set (i := 11) sc_law_spec.nd rfl (.inl rfl) (pe_tup (pa_cons (pv 9) (pa_cons (pv 8) (pa_cons (pe_ix ix_list (pe_lst (pa_cons pe_int (pa_cons pe_int pa_nil))) (pe_call (ok_law_draw T) (hr.mono (by decide)) (by rfl) T.m_law_draw T.F_law_draw.kp (b_law_draw T) .nil pass0 (pa_cons (pv 0) (pa_cons pe_int pa_nil))) (fun _ _ => rfl)) pa_nil)))))
      (pss_one (ps_if (pt_cmpR (op_notInD (hu65 hr)) (pv 11) (pv 7) (by rfl)) (pss_one (ps_expr (pe_bm PySem.F.plainAttrs_list PySem.F.slot_list_append PySem.F.type_list_append mt_append (pv 7) (pa_cons (pv 11) pa_nil)))) pss_nil)))))) (pss_one (ps_if (pt_cmpR op_eq (pv 4) pe_int (nomark _)) (pss_one (ps_set (i := 6) sc_law_spec.nd rfl (.inl rfl) (pe_slice sl_list (pv 6) po_none (po_some (pe_call (ok_law_draw T) (hr.mono (by decide)) (by rfl) T.m_law_draw T.F_law_draw.kp (b_law_draw T) .nil pass0 (pa_cons (pv 0) (pa_cons pe_int pa_nil))))))) pss_nil)))))))
      (pss_one (ps_ret (pe_tup (pa_cons (pv 2) (pa_cons (pe_callTy call_tuple_of (by rfl) T.n_tuple (by decide +kernel) (pa_cons (pv 6) pa_nil)) (pa_cons (pe_callTy call_tuple_of (by rfl) T.n_tuple (by decide +kernel) (pa_cons (pv 7) pa_nil)) pa_nil))))))))))))), ?_⟩
    -- the size
    refine rd_set ⟨_, rfl, _, rfl, p, c, 4, rfl, hp, by omega, by omega, fun k0 H1 hk0 pk1 nx1 => ⟨_, _, rfl, rfl, ?_⟩⟩
    dsimp only
    rw [show (1 + (k0 : Int)) = ((1 + k0 : Nat) : Int) by omega]
    have n1 : 1 ≤ 1 + k0 := by omega
    have n4 : 1 + k0 ≤ 4 := by omega
    generalize 1 + k0 = n at n1 n4 ⊢
    -- the places
    refine rd_set ⟨_, rfl, _, rfl, _, rfl, RgOk.of_le (by decide) (by omega) (by decide) (by omega), fun L nL => ?_⟩
    rw [rgV0]
    have s2 := Same.new (o := .lst ((List.range n).map VI)) nL
    have hL : (upd H1 L (.lst ((List.range n).map VI))) L = _ := upd_same
    have pk1' := pk1.same s2
    have nx1' := Nx.trans nx1 (Nx.of s2)
    generalize upd H1 L (.lst ((List.range n).map VI)) = H1' at s2 hL pk1' nx1' ⊢
    refine ⟨p, c, L, List.range n, rfl, pk1', SqL.of hL, by rw [List.length_range]; omega, fun H2 R pls nx2 pk2 nR hR perm => ?_⟩
    have lp : pls.length = n := by rw [perm.length_eq, List.length_range]
    have nRpc : R ∉ [p, c] := pk1'.ne nR
    have nx02 := Nx.trans nx1' nx2
    -- kind, far
    refine rd_set ⟨_, rfl, p, c, 5, rfl, pk2, by omega, by omega, fun kind H3 hkind pk3 nx3 => ?_⟩
    refine rd_set ⟨by show 4 ≤ sizeLine; decide, fun M nM => ⟨_, rfl, p, c, 4, rfl, pk3.same (Same.new nM), by omega, by omega, fun k4 H4 hk4 pk4 nx4 => ?_⟩⟩
    obtain ⟨far, hfar, gfar⟩ := far_get hk4
    have hM4 := nx4 _ _ (pk3.ne nM) upd_same
    have nx34 : Nx [p, c] H3 H4 := Nx.trans (Nx.of (Same.new nM)) nx4
    refine ⟨M, _, _, _, rfl, rfl, SqL.of hM4, at_ rfl gfar, ?_⟩
    have nx24 := Nx.trans nx3 nx34
    have hR4 := nx24 _ _ nRpc hR
    -- needs
    refine rd_set ⟨_, rfl, _, rfl, _, rfl, _, rfl, _, _, rfl, rfl, .inl ⟨by decide, by decide⟩, p, c, 2 * n, by show [V.ref p, V.int (2 * (n : Int))] = [V.ref p, VI (2 * n)]; rw [show (2 * (n : Int)) = ((2 * n : Nat) : Int) by omega], pk4, by omega, by omega, fun k5 H5 hk5 pk5 nx5 => ?_⟩
    have hR5 := nx5 _ _ nRpc hR4
    refine ⟨_, _, rfl, rfl, _, rfl, p, c, R, pls, 1 + k5, far, ?_, pk5, SqL.of hR5, nRpc, by omega, by omega, by omega, hfar, fun H6 A as ls nx6 pk6 nA hA hls dls lls law1 => ?_⟩
    · show [V.ref p, V.ref R, V.int (1 + (k5 : Int)), VI far] = [V.ref p, V.ref R, VI (1 + k5), VI far]
      rw [show (1 + (k5 : Int)) = ((1 + k5 : Nat) : Int) by omega]
    have hR6 := nx6 _ _ nRpc hR5
    have nApc : A ∉ [p, c] := pk5.ne nA
    -- befores
    refine rd_set ⟨_, rfl, _, rfl, _, rfl, _, rfl, _, _, rfl, rfl, p, c, n + 2, by show [V.ref p, V.int ((n : Int) + 2)] = [V.ref p, VI (n + 2)]; rw [show ((n : Int) + 2) = ((n + 2 : Nat) : Int) by omega], pk6, by omega, by omega, fun k7 H7 hk7 pk7 nx7 => ?_⟩
    have hR7 := nx7 _ _ nRpc hR6
    refine ⟨_, rfl, p, c, R, pls, k7, far, rfl, pk7, SqL.of hR7, nRpc, by omega, by omega, by omega, hfar, fun H8 B bs ms nx8 pk8 nB hB hms dms lms law2 => ?_⟩
    have hR8 := nx8 _ _ nRpc hR7
    have nx68 := Nx.trans nx7 nx8
    have nx08 := Nx.trans nx02 (Nx.trans nx24 (Nx.trans nx5 (Nx.trans nx6 nx68)))
    have hA8 := nx68 _ _ nApc hA
    have hls8 : Trs H8 as ls := hls.keep (pk6.tup nx68)
    have nBpc : B ∉ [p, c] := pk7.ne nB
    rw [lp] at law1 law2
    have fin : ∀ {H' : Hp} {A' B' : Addr} {as' bs' : List Addr} {ls' ms' : List Lk} {σ : L2.St} {x8 x9 x10 x11 : Option V}, σ = [some (.ref p), some (.int 4), some (VI n), some (.ref R), some (VI kind), some (VI far), some (.ref A'), some (.ref B'), x8, x9, x10, x11] →
        Nx [p, c] H8 H' → PoolOk H' p c → H' A' = some (.lst (as'.map V.ref)) → H' B' = some (.lst (bs'.map V.ref)) → Trs H' as' ls' → Trs H' bs' ms' → ls'.Nodup → ms'.Nodup → ls'.length ≤ 40 → ms'.length ≤ 40 → Lawful n pls ls' → Lawful n pls ms' →
        tRet (tTup (tCons (tVar 2) (tCons (tCB (rTupOf K) (tCons (tVar 6) tNil)) (tCons (tCB (rTupOf K) (tCons (tVar 7) tNil)) tNil)))) { nx := fun _ H' => Q .non H', rt := Q } σ H' :=
      fun {H'} {A'} {B'} {as'} {bs'} {ls'} {ms'} {σ} {x8} {x9} {x10} {x11} hσ nx pk hA hB ha hb d1 d2 l1 l2 w1 w2 => rd_specEnd hσ hA hB ha hb fun s H9 s9 ok => q H9 s n ls' ms' (Nx.trans nx08 (Nx.trans nx (Nx.of s9))) (pk.same s9) ok ⟨n1, n4, l1, l2, d1, d2, pls, w1, w2⟩
    refine rd_seq ⟨_, rfl, rfl, _, rfl, ifB (fun _ => ?_) fun _ => ⟨_, rfl, rfl, _, rfl, ifB (fun _ => ?_) fun _ => ⟨_, rfl, rfl, _, rfl, ifB (fun _ => ?_) fun _ => ⟨_, rfl, rfl, _, rfl, ifB (fun _ => ?_) fun _ => ?_⟩⟩⟩⟩
    · -- the needs a ring
      refine ⟨_, rfl, _, rfl, p, c, R, pls, rfl, pk8, SqL.of hR8, nRpc, by rw [lp]; exact perm, by omega, by omega, fun H9 A9 as9 ls9 nx9 pk9 _ hA9 hls9 d9 l9 w9 => ?_⟩
      rw [lp] at w9
      exact fin rfl nx9 pk9 hA9 (nx9 _ _ nBpc hB) hls9 (hms.keep (pk8.tup nx9)) d9 dms (by omega) (by omega) w9 law2
    · -- the befores a ring
      refine ⟨_, rfl, _, rfl, p, c, R, pls, rfl, pk8, SqL.of hR8, nRpc, by rw [lp]; exact perm, by omega, by omega, fun H9 A9 as9 ls9 nx9 pk9 _ hA9 hls9 d9 l9 w9 => ?_⟩
      rw [lp] at w9
      exact fin rfl nx9 pk9 (nx9 _ _ nApc hA8) hA9 (hls8.keep (pk8.tup nx9)) hls9 dls d9 (by omega) (by omega) law1 w9
    · -- the needs turned
      refine rd_set ⟨Nat.zero_le _, fun F nF => ?_⟩
      have sF := Same.new (o := .lst []) nF
      have hF : (upd H8 F (.lst [])) F = some (.lst []) := upd_same
      have nFpc : F ∉ [p, c] := pk8.ne nF
      have AF : A ≠ F := ne_of_none hA8 nF
      refine rd_for ⟨_, rfl, A, rfl, ⟨_, SqL.of (sF _ _ hA8)⟩, ?_⟩
      refine for_it (walk_list (xs := as.map V.ref)) (fun i σ H' => ∃ (y8 y9 y10 y11 : Option V) (bs' : List Addr) (ms' : List Lk), σ = [some (.ref p), some (.int 4), some (VI n), some (.ref R), some (VI kind), some (VI far), some (.ref A), some (.ref F), y8, y9, y10, y11] ∧ Nx [p, c] H8 H' ∧ PoolOk H' p c ∧ H' F = some (.lst (bs'.map V.ref)) ∧ Trs H' bs' ms' ∧ ms'.Nodup ∧ ms'.length ≤ i ∧ Lawful n pls ms')
        ⟨_, _, _, _, [], [], rfl, Nx.of sF, pk8.same sF, hF, .nil, List.nodup_nil, Nat.le_refl _, fun l h => by simp at h⟩ (fun i σ H' _ h => ?_) (fun i v σ Ha Hb hi ha hy => ?_) fun σ H9 h9 => ?_
      · obtain ⟨_, _, _, _, _, _, _, nx, _⟩ := h
        exact SqL.of (nx _ _ nApc hA8)
      · obtain ⟨rfl, hv⟩ := hy
        obtain ⟨y8, y9, y10, y11, bs', ms', rfl, nx, pk, hF', hms', dms', lms', w'⟩ := ha
        obtain ⟨b, rfl, hb⟩ := map_get hv
        obtain ⟨l, hl, htr⟩ := pget hls8 hb
        have htr' : Tr Hb b l := pk8.tup nx _ _ htr
        obtain ⟨wl1, wl2, _, _⟩ := law1 l (List.mem_of_getElem? hl)
        refine ⟨b, _, rfl, SqT.of htr', rfl, _, _, rfl, _, _, rfl, _, _, rfl, rfl, ?_⟩
        have hil : i < ls.length := (List.getElem?_eq_some_iff.mp hl).1
        refine rd_set ⟨_, rfl, _, rfl, by show 2 ≤ sizeLine; decide, fun N nN => ⟨_, rfl, p, c, 2, rfl, pk.same (Same.new nN), by omega, by omega, fun kk H10 hkk pk10 nx10 => ?_⟩⟩
        obtain ⟨r, hr1, hr2, gr⟩ := back_get hkk
        have hN10 := nx10 _ _ (pk.ne nN) upd_same
        have nxb : Nx [p, c] Hb H10 := Nx.trans (Nx.of (Same.new nN)) nx10
        refine ⟨N, _, _, _, rfl, rfl, SqL.of hN10, at_ rfl gr, by show 3 ≤ sizeLine; decide, fun t nt => ?_⟩
        have st := Same.new (o := .tup [VI l.2.1, VI l.1, VI r]) nt
        have htt : Tr (upd H10 t (.tup [VI l.2.1, VI l.1, VI r])) t (l.2.1, l.1, r) := upd_same
        have nxt := Nx.trans nxb (Nx.of st)
        have pkt := pk10.same st
        generalize upd H10 t (.tup [VI l.2.1, VI l.1, VI r]) = H11 at st htt nxt pkt ⊢
        have hF11 := nxt _ _ nFpc hF'
        have hms11 : Trs H11 bs' ms' := hms'.keep (pk.tup nxt)
        refine rd_back (l := (l.2.1, l.1, r)) rfl hF11 hms11 htt (by omega) (fun _ => ?_) fun H12 hno kp hF12 hms12 => ?_
        · exact ⟨_, _, _, _, bs', ms', rfl, Nx.trans nx nxt, pkt, hF11, hms11, dms', by omega, w'⟩
        · refine ⟨_, _, _, _, bs' ++ [t], ms' ++ [(l.2.1, l.1, r)], rfl, fun b o nb e => kp b o (ne_of_none e nF) (Nx.trans nx nxt b o nb e), pkt.nx fun b o hb e => kp b o (fun z => nFpc (by rcases hb with h | h <;> simp [← z, h])) e, hF12, hms12, nd_snoc dms' hno, by rw [List.length_append]; show ms'.length + 1 ≤ i + 1; omega, fun x hx => ?_⟩
          rcases List.mem_append.mp hx with h | h
          · exact w' x h
          · have e : x = (l.2.1, l.1, r) := by simpa using h
            subst e
            exact ⟨wl2, wl1, by show r ≤ 6; omega, fun z => by
              have z' : r = 0 := z
              omega⟩
      · obtain ⟨y8, y9, y10, y11, bs', ms', rfl, nx, pk, hF', hms', dms', lms', w'⟩ := h9
        rw [List.length_map, Paired.length hls8] at lms'
        exact fin rfl nx pk (nx _ _ nApc hA8) hF' (hls8.keep (pk8.tup nx)) hms' dls dms' (by omega) (by omega) law1 w'
    · -- few needs
      refine ⟨_, rfl, _, rfl, p, c, 3, rfl, pk8, by omega, by omega, fun kk H9 hkk pk9 nx9 => ⟨_, rfl, A, _, rfl, SqL.of (nx9 _ _ nApc hA8), fun N nN => ?_⟩⟩
      obtain ⟨j, ej⟩ := cut_ref as kk
      have sN := Same.new (o := .lst (cutV (as.map V.ref) none (some (kk : Int)))) nN
      have hN : (upd H9 N (.lst (cutV (as.map V.ref) none (some (kk : Int))))) N = some (.lst ((as.take j).map V.ref)) := by rw [upd_same, ej]
      have nx' := Nx.trans nx9 (Nx.of sN)
      have pk' := pk9.same sN
      have lt : (ls.take j).length ≤ ls.length := by rw [List.length_take]; omega
      exact fin rfl nx' pk' hN (nx' _ _ nBpc hB) (ptake j (hls8.keep (pk8.tup nx'))) (hms.keep (pk8.tup nx')) (dls.sublist (List.take_sublist _ _)) dms (by omega) (by omega) (fun l h => law1 l (List.mem_of_mem_take h)) law2
    · exact fin rfl Nx.refl pk8 hA8 hB hls8 hms dls dms (by omega) (by omega) law1 law2
def sp_law_program (C : Addr) : Sp := fun vs H Q _ => ∃ (s : Addr) (n : Nat) (ls ms : List Lk), vs = [.ref s] ∧ SpecOk H s n ls ms ∧ Good n ls ms ∧ ∀ H' x, Same H H' → PrOk C H' x n (ls ++ ms) → Q (.ref x) H'
theorem ok_law_program (T : Txt K mg) : FnOk P w K mg base CX0 7 T.f_law_program T.d_law_program ["_law_spec_here"] (sp_law_program T.C) := by
  refine T.F_law_program.ok sc_law_program (fun vs H Q E h => ?_) (fun cdv A outer s H vs Q E hr h => ?_)
  · obtain ⟨s, n, ls, ms, rfl, _⟩ := h
    rfl
  · obtain ⟨sa, n, ls, ms, rfl, ⟨tn, tb, as, bs, hs, hn, hb, ht, hu⟩, g, q⟩ := h
    obtain ⟨pls, w1, w2⟩ := g.rise
    refine ⟨_, (pss_one (ps_ret (pe_make T.mk_Program (ok_init T) (hr.mono (by decide)) (by rfl) T.m_Program (b_init T) .nil pass0 (pa_cons (pe_ix ix_tup (pv 0) pe_int (fun _ _ => rfl)) (pa_cons (pe_ix ix_tup (pv 0) pe_int (fun _ _ => rfl)) (pa_cons (pe_ix ix_tup (pv 0) pe_int (fun _ _ => rfl)) pa_nil)))))), ?_⟩
    have hT := SqT.of (K := K) hs
    refine rd_ret ⟨_, rfl, sa, _, _, _, rfl, rfl, hT, at_ (j := 0) rfl rfl, _, rfl, sa, _, _, _, rfl, rfl, hT, at_ (j := 1) rfl rfl, _, rfl, sa, _, _, _, rfl, rfl, hT, at_ (j := 2) rfl rfl, fun x dx nx ndx ne => ?_⟩
    have s1 := Same.new (o := .own x) ndx
    have nx1 : (upd H dx (.own x)) x = none := by rw [upd_ne ne.symm]; exact nx
    have s2 := Same.new (o := .ins T.C dx []) nx1
    have s12 := Same.trans s1 s2
    refine ⟨x, dx, n, tn, tb, as, bs, ls, ms, cn pls, rfl, upd_same, s12 _ _ hn, s12 _ _ hb, ht.keep fun b xs e => s12 _ _ e, hu.keep fun b xs e => s12 _ _ e, g.la, g.lb, g.da, g.db, g.n1, by have := g.n4; omega, fun l m => ?_, fun a b m => ?_, fun H' tl cs fs nxx h1 h2 h3 h4 h5 => ⟨rfl, ?_⟩⟩
    · rcases List.mem_append.mp m with m | m
      · obtain ⟨a1, a2, a3, _⟩ := w1 l m
        exact ⟨a1, a2, a3⟩
      · obtain ⟨a1, a2, a3, _⟩ := w2 l m
        exact ⟨a1, a2, a3⟩
    · rcases List.mem_append.mp m with m | m
      · exact (w1 _ m).2.2.2 rfl
      · exact (w2 _ m).2.2.2 rfl
    · exact q H' x (fun b o e => nxx b o (by simpa using ne_of_none e nx) (s12 _ _ e)) ⟨dx, tl, fs, cs, h1, h2, h3, h4, h5⟩
end
end K24

/-! The law's own links, its table, its word for a free step. -/
namespace K24
open PySem PySem.Spec PyProof.Rows L2
theorem r0 (i : Nat) : V.int (0 + (i : Int)) = VI i := by
  show V.int (0 + (i : Int)) = V.int (i : Int)
  rw [Int.zero_add]
theorem Good.inR {n : Nat} {ls ms : List Lk} (g : Good n ls ms) : InR n (ls ++ ms) := fun a b r m => by
  obtain ⟨pls, w1, w2⟩ := g.rise
  rcases List.mem_append.mp m with m | m
  · exact ⟨(w1 _ m).1, (w1 _ m).2.1⟩
  · exact ⟨(w2 _ m).1, (w2 _ m).2.1⟩
theorem Good.len {n : Nat} {ls ms : List Lk} (g : Good n ls ms) : (ls ++ ms).length ≤ 80 := by
  have := g.la
  have := g.lb
  rw [List.length_append]
  omega
/-- the key of two numbers -/
def k2 (a b : Nat) : List Key := [kk a, kk b]
theorem k2_inj {a b c d : Nat} (h : k2 a b = k2 c d) : a = c ∧ b = d := by
  unfold k2 at h
  simp only [List.cons.injEq, and_true] at h
  exact ⟨kk_inj h.1, kk_inj h.2⟩
/-- a dictionary of numbers by two numbers -/
def TD (kvs : List (List Key × V)) (T : Tb) : Prop := ∀ a b : Nat, valV kvs (k2 a b) = (T a b).map VI
theorem TD.put {kvs : List (List Key × V)} {T : Tb} (t : TD kvs T) (a b v : Nat) : TD (putK kvs (k2 a b) (VI v)) (setT T a b (some v)) := fun x y => by
  rw [valV_put]
  by_cases h : x = a ∧ y = b
  · obtain ⟨rfl, rfl⟩ := h
    rw [if_pos rfl, setT_same]
    rfl
  · rw [if_neg fun z => h (k2_inj z), setT_ne h]
    exact t x y
theorem minV (x : Nat) (y : Option Nat) : V.int (if ((y.getD x : Nat) : Int) < (x : Int) then ((y.getD x : Nat) : Int) else (x : Int)) = VI (minO x y) := by
  unfold minO
  by_cases h : y.getD x < x
  · rw [if_pos h, if_pos (by omega)]
  · rw [if_neg h, if_neg (by omega)]
theorem getDV (x : Nat) (y : Option Nat) : (y.map VI).getD (VI x) = VI (y.getD x) := by
  cases y <;> rfl
theorem bf0_next (i : Nat) : setT (bf0 i) i i (some 0) = bf0 (i + 1) := by
  funext a b
  unfold setT bf0
  by_cases h : a = i ∧ b = i
  · obtain ⟨rfl, rfl⟩ := h
    rw [if_pos ⟨rfl, rfl⟩, if_pos ⟨rfl, by omega⟩]
  · rw [if_neg h]
    by_cases g : a = b ∧ a < i
    · rw [if_pos g, if_pos ⟨g.1, by omega⟩]
    · rw [if_neg g, if_neg fun z => by
        obtain ⟨rfl, z⟩ := z
        have : a ≠ i := fun e => h ⟨e, e⟩
        exact g ⟨rfl, by omega⟩]
theorem cget {c : List Nat} {i : Nat} (h : i < c.length) : (c.map VI)[i]? = some (VI (cn c i)) := by
  rw [List.getElem?_map, get_cn h]
  rfl
section
variable {P : Program} {w : World} {K : PySem.W.Frag} {mg : Str → Option Value} {base : Heap}
def sp_law_links : Sp := fun vs H Q _ => ∃ (s : Addr) (n : Nat) (ls ms : List Lk), vs = [.ref s] ∧ SpecOk H s n ls ms ∧ (ls ++ ms).length ≤ 80 ∧ ∀ H' r as, Same H H' → H r = none → H' r = some (.lst (as.map V.ref)) → Trs H' as (ls ++ ms) → Q (.ref r) H'
theorem ok_law_links (T : Txt K mg) : FnOk P w K mg base CX0 1 T.f_law_links T.d_law_links ["_law_spec_here"] sp_law_links := by
  refine T.F_law_links.ok sc_law_links (fun vs H Q E h => ?_) (fun cdv A outer s H vs Q E hr h => ?_)
  · obtain ⟨s, n, ls, ms, rfl, _⟩ := h
    rfl
  · obtain ⟨sa, n, ls, ms, rfl, ⟨tn, tb, as, bs, hs, hn, hb, ht, hu⟩, hlen, q⟩ := h
    refine ⟨_, (pss_one (ps_ret (pe_op op_cat (pe_callTy call_list_of (by rfl) T.n_list (by decide +kernel) (pa_cons (pe_ix ix_tup (pv 0) pe_int (fun _ _ => rfl)) pa_nil)) (pe_callTy call_list_of (by rfl) T.n_list (by decide +kernel) (pa_cons (pe_ix ix_tup (pv 0) pe_int (fun _ _ => rfl)) pa_nil))))), ?_⟩
    refine rd_ret ⟨_, rfl, sa, _, _, _, rfl, rfl, SqT.of hs, at_ (j := 1) rfl rfl, tn, _, rfl, .inr (SqT.of hn), fun A nA => ?_⟩
    have s1 := Same.new (o := .lst (as.map V.ref)) nA
    have hA : (upd H A (.lst (as.map V.ref))) A = _ := upd_same
    generalize upd H A (.lst (as.map V.ref)) = H1 at s1 hA ⊢
    refine ⟨_, rfl, sa, _, _, _, rfl, rfl, SqT.of (s1 _ _ hs), at_ (j := 2) rfl rfl, tb, _, rfl, .inr (SqT.of (s1 _ _ hb)), fun B nB => ?_⟩
    have s2 := Same.new (o := .lst (bs.map V.ref)) nB
    have hB : (upd H1 B (.lst (bs.map V.ref))) B = _ := upd_same
    have hA2 := s2 _ _ hA
    have s12 := Same.trans s1 s2
    generalize upd H1 B (.lst (bs.map V.ref)) = H2 at s12 hB hA2 ⊢
    refine ⟨A, B, as.map V.ref, bs.map V.ref, rfl, rfl, hA2, hB, ?_, fun r nr => ?_⟩
    · rw [List.length_map, List.length_map, Paired.length ht, Paired.length hu, ← List.length_append]
      exact Nat.le_of_lt (small (by omega))
    · have s3 := Same.new (o := .lst (as.map V.ref ++ bs.map V.ref)) nr
      have s13 := Same.trans s12 s3
      exact q _ r (as ++ bs) s13 (Same.none s12 nr) (by rw [upd_same, List.map_append]) (pappend (ht.keep fun b xs e => s13 _ _ e) (hu.keep fun b xs e => s13 _ _ e))
def sp_law_free (K : PySem.W.Frag) : Sp := fun vs H Q _ => ∃ (s a : Addr) (n step : Nat) (ls ms : List Lk) (c : List Nat), vs = [.ref s, .ref a, VI step] ∧ SpecOk H s n ls ms ∧ Good n ls ms ∧ SqL K H a (c.map VI) ∧ c.length = n ∧ step < n ∧
  ∀ H' b, Same H H' → (b = true ↔ Free (ls ++ ms) c step) → Q (.bl b) H'
theorem ok_law_free (T : Txt K mg) : FnOk P w K mg base CX0 2 T.f_law_free T.d_law_free ["_law_spec_here", "_law_counts", "_law_step"] (sp_law_free K) := by
  refine T.F_law_free.ok sc_law_free (fun vs H Q E h => ?_) (fun cdv A outer s H vs Q E hr h => ?_)
  · obtain ⟨s, a, n, step, ls, ms, c, rfl, _⟩ := h
    rfl
  · obtain ⟨sa, a, n, step, ls, ms, c, rfl, hsp, g, ha, lc, hst, q⟩ := h
    refine ⟨_, (pss_cons (ps_for PassesOwn.never rfl (pi_list (pe_call (ok_law_links T) (hr.mono (by decide)) (by rfl) T.m_law_links T.F_law_links.kp (b_law_links T) .nil pass0 (pa_cons (pv 0) pa_nil))) (pg_tup rfl (pgs_cons (pg_name (i := 3) sc_law_free.nd rfl (.inl rfl)) (pgs_cons (pg_name (i := 4) sc_law_free.nd rfl (.inl rfl)) (pgs_cons (pg_name (i := 5) sc_law_free.nd rfl (.inl rfl)) pgs_nil)))) (pss_one (ps_if (PW.pt (pw_and (pt_cmpR op_eq (pv 4) (pv 2) (nomark _)) (pw_and1 (pt_cmpR op_gt (pe_op op_sub (pe_op op_add (pe_ix ix_list (pv 1) (pv 2) (fun _ _ => rfl)) pe_int) (pv 5)) (pe_ix ix_list (pv 1) (pv 3) (fun _ _ => rfl)) (nomark _))))) (pss_one (ps_ret pe_bl)) pss_nil)))
      (pss_one (ps_ret pe_bl))), ?_⟩
    refine rd_seq (rd_for ⟨_, rfl, sa, n, ls, ms, rfl, hsp, g.len, fun H1 R as s1 nR hR ht => ⟨R, rfl, ⟨_, SqL.of hR⟩, ?_⟩⟩)
    refine for_it (walk_list (xs := as.map V.ref)) (fun i σ H' => ∃ y3 y4 y5 : Option V, σ = [some (.ref sa), some (.ref a), some (VI step), y3, y4, y5] ∧ H' = H1 ∧ ∀ l ∈ (ls ++ ms).take i, l.2.1 = step → cn c step + 1 ≤ cn c l.1 + l.2.2)
      ⟨_, _, _, rfl, rfl, fun l h => by simp at h⟩ (fun i σ H' _ h => ?_) (fun i v σ Ha Hb hi h hy => ?_) fun σ H2 h2 => ?_
    · obtain ⟨_, _, _, _, rfl, _⟩ := h
      exact SqL.of hR
    · obtain ⟨rfl, hv⟩ := hy
      obtain ⟨y3, y4, y5, rfl, rfl, hd⟩ := h
      obtain ⟨b, rfl, hb⟩ := map_get hv
      obtain ⟨l, hl, htr⟩ := pget ht hb
      obtain ⟨i1, i2⟩ := g.inR _ _ _ (List.mem_of_getElem? hl)
      have hA : SqL K Hb a (c.map VI) := Nx.sqL (S := []) (Nx.of s1) (by simp) ha
      have nextT : (l.2.1 = step → cn c step + 1 ≤ cn c l.1 + l.2.2) → ∀ x ∈ (ls ++ ms).take (i + 1), x.2.1 = step → cn c step + 1 ≤ cn c x.1 + x.2.2 := fun hx x mx => by
        rcases (mem_take_succ hl).mp mx with m | rfl
        · exact hd x m
        · exact hx
      refine ⟨b, _, rfl, SqT.of htr, rfl, _, _, rfl, _, _, rfl, _, _, rfl, rfl, ?_⟩
      refine ⟨_, rfl, _, rfl, rfl, _, rfl, if2 (fun h0 => ?_) fun h0 => ?_⟩
      · have e0 : l.2.1 = step := VI_eq.mp h0
        refine ⟨_, rfl, _, rfl, a, _, _, _, rfl, rfl, hA, at_ rfl (cget (by omega)), _, _, rfl, rfl, _, rfl, _, _, rfl, rfl, _, rfl, _, rfl, a, _, _, _, rfl, rfl, hA, at_ rfl (cget (i := l.1) (by omega)), _, _, rfl, rfl, _, rfl, if2 (fun hgt => ?_) fun hle => ?_⟩
        · refine q Hb false s1 ⟨fun z => (nomatch z), fun hf => ?_⟩
          have := hf l.1 l.2.2 (by rw [← e0]; exact List.mem_of_getElem? hl)
          exfalso
          omega
        · exact ⟨_, _, _, rfl, rfl, nextT fun _ => by omega⟩
      · exact ⟨_, _, _, rfl, rfl, nextT fun e => absurd (VI_eq.mpr e) h0⟩
    · obtain ⟨y3, y4, y5, rfl, rfl, hd⟩ := h2
      rw [List.length_map, Paired.length ht, List.take_length] at hd
      exact q H2 true s1 ⟨fun _ x r m => hd _ m rfl, fun _ => rfl⟩
def sp_law_table : Sp := fun vs H Q _ => ∃ (s : Addr) (n : Nat) (ls ms : List Lk), vs = [.ref s] ∧ SpecOk H s n ls ms ∧ Good n ls ms ∧
  ∀ H' D kvs T, Same H H' → H' D = some (.dT kvs) → TD kvs T → IsDist n (ls ++ ms) T → Q (.ref D) H'
theorem ok_law_table (T : Txt K mg) : FnOk P w K mg base CX0 2 T.f_law_table T.d_law_table ["_law_spec_here"] sp_law_table := by
  refine T.F_law_table.ok sc_law_table (fun vs H Q E h => ?_) (fun cdv A outer s H vs Q E hr h => ?_)
  · obtain ⟨s, n, ls, ms, rfl, _⟩ := h
    rfl
  · obtain ⟨sa, n, ls, ms, rfl, hsp, g, q⟩ := h
    refine ⟨_, (pss_cons (ps_set (i := 1) sc_law_table.nd rfl (.inl rfl) pe_dnewT)
      (pss_cons (ps_for PassesOwn.never rfl (pi_range1 (by rfl) T.n_range (pa_cons (pe_ix ix_tup (pv 0) pe_int (fun _ _ => rfl)) pa_nil)) (pg_name (i := 2) sc_law_table.nd rfl (.inl rfl)) (pss_one (ps_dput (hu_of hr) (pv 1) (pe_tup (pa_cons (pv 2) (pa_cons (pv 2) pa_nil))) pe_int rfl)))
      (pss_cons (ps_for PassesOwn.never rfl (pi_range1 (by rfl) T.n_range (pa_cons (pe_op op_add (pe_ix ix_tup (pv 0) pe_int (fun _ _ => rfl)) pe_int) pa_nil)) (pg_name (i := 3) sc_law_table.nd rfl (.inl rfl)) (pss_one (ps_for PassesOwn.never rfl (pi_list (pe_call (ok_law_links T) (hr.mono (by decide)) (by rfl) T.m_law_links T.F_law_links.kp (b_law_links T) .nil pass0 (pa_cons (pv 0) pa_nil))) (pg_tup rfl (pgs_cons (pg_name (i := 4) sc_law_table.nd rfl (.inl rfl)) (pgs_cons (pg_name (i := 5) sc_law_table.nd rfl (.inl rfl)) (pgs_cons (pg_name (i := 6) sc_law_table.nd rfl (.inl rfl)) pgs_nil)))) (pss_one (ps_for PassesOwn.never rfl (pi_range1 (by rfl) T.n_range (pa_cons (pe_ix ix_tup (pv 0) pe_int (fun _ _ => rfl)) pa_nil)) (pg_name (i := 7) sc_law_table.nd rfl (.inl rfl)) (pss_one (ps_if (pt_cmp (pc_din (hu_of hr) (pe_tup (pa_cons (pv 7) (pa_cons (pv 4) pa_nil))) (pv 1))) (pss_cons (ps_set (i := 8) sc_law_table.nd rfl (.inl rfl) (pe_op op_add (pe_dget (hu_of hr) (pv 1) (pe_tup (pa_cons (pv 7) (pa_cons (pv 4) pa_nil))) (fun _ _ => rfl)) (pv 6)))
      (pss_one (ps_dput (hu_of hr) (pv 1) (pe_tup (pa_cons (pv 7) (pa_cons (pv 5) pa_nil))) (pe_callB (call_min2 rfl) (by rfl) T.n_min (by decide +kernel) (pa_cons (pv 8) (pa_cons (pe_dget2 (hu_of hr) (pv 1) (pe_tup (pa_cons (pv 7) (pa_cons (pv 5) pa_nil))) (pv 8) ⟨rfl, rfl, rfl, rfl⟩) pa_nil))) rfl))) pss_nil)))))))
      (pss_one (ps_ret (pv 1)))))), ?_⟩
    have g4 := g.n4
    have g80 := g.len
    have hT : ∀ {H' : Hp}, Same H H' → ∃ (tn tb : Addr), SqT K H' sa [VI n, .ref tn, .ref tb] := fun s => by
      obtain ⟨tn, tb, _, _, e, _⟩ := hsp
      exact ⟨tn, tb, SqT.of (s _ _ e)⟩
    refine rd_set fun D nD => ?_
    have sD := Same.new (o := .dT []) nD
    have hD0 : (upd H D (.dT [])) D = some (.dT []) := upd_same
    generalize upd H D (.dT []) = H0 at sD hD0 ⊢
    obtain ⟨tn, tb, hT0⟩ := hT sD
    refine rd_seq (rd_for ⟨_, rfl, sa, _, _, _, rfl, rfl, hT0, at_ (j := 0) rfl rfl, (n : Int), rfl, by omega, by omega, ?_⟩)
    refine for_it walk_range (fun i σ H' => ∃ (y2 y3 y4 y5 y6 y7 y8 : Option V) (kvs : List (List Key × V)), σ = [some (.ref sa), some (.ref D), y2, y3, y4, y5, y6, y7, y8] ∧ Same H H' ∧ H' D = some (.dT kvs) ∧ TD kvs (bf0 i) ∧ kvs.length ≤ i)
      ⟨_, _, _, _, _, _, _, [], rfl, sD, hD0, fun a b => ?_, Nat.le_refl _⟩ (fun _ _ _ _ _ => trivial) (fun i v σ Ha Hb hi ha hy => ?_) fun σ H1 h1 => ?_
    · unfold bf0
      rw [if_neg (by omega)]
      rfl
    · obtain ⟨rfl, hv⟩ := hy
      obtain rfl : v = VI i := by rw [hv]; exact r0 i
      obtain ⟨y2, y3, y4, y5, y6, y7, y8, kvs, rfl, sa', hD, td, hl⟩ := ha
      refine ⟨_, rfl, _, rfl, _, rfl, by show 2 ≤ sizeLine; decide, fun t nt => ?_⟩
      have st := Same.new (o := .tup [VI i, VI i]) nt
      have hk : (upd Hb t (.tup [VI i, VI i])) t = some (.tup ((k2 i i).map kV)) := upd_same
      refine ⟨D, _, rfl, DPut.t (st _ _ hD) hk (small (by omega)), _, _, _, _, _, _, _, _, rfl, fun c o e => ?_, upd_same, ?_, ?_⟩
      · rw [upd_ne (ne_of_none e nD)]
        exact st _ _ (sa' _ _ e)
      · have := td.put i i 0
        rw [bf0_next] at this
        exact this
      · have := length_putK kvs (k2 i i) (V.int 0)
        omega
    · obtain ⟨y2, y3, y4, y5, y6, y7, y8, kvs0, rfl, s1, hD1, td1, hl1⟩ := h1
      have en : ((n : Int)).toNat = n := by omega
      rw [en] at td1 hl1
      obtain ⟨tn, tb, hT1⟩ := hT s1
      dsimp only
      refine rd_seq (rd_for ⟨_, rfl, sa, _, _, _, rfl, rfl, hT1, at_ (j := 0) rfl rfl, _, _, rfl, rfl, ((n : Int) + 1), rfl, by omega, by omega, ?_⟩)
      refine for_it walk_range (fun t σ H' => ∃ (y2 y3 y4 y5 y6 y7 y8 : Option V) (kvs : List (List Key × V)) (F : Tb), σ = [some (.ref sa), some (.ref D), y2, y3, y4, y5, y6, y7, y8] ∧ Same H H' ∧ H' D = some (.dT kvs) ∧ TD kvs F ∧ BF n (ls ++ ms) t F ∧ kvs.length ≤ 4 + t * 320)
        ⟨_, _, _, _, _, _, _, kvs0, bf0 n, rfl, s1, hD1, td1, BF.start n _, by omega⟩ (fun _ _ _ _ _ => trivial) (fun t v σ Ha Hb htl ha hy => ?_) fun σ H2 h2 => ?_
      · obtain ⟨rfl, hv⟩ := hy
        obtain rfl : v = VI t := by rw [hv]; exact r0 t
        obtain ⟨y2, y3, y4, y5, y6, y7, y8, kvs, F, rfl, sa', hD, td, bf, hl⟩ := ha
        have ht5 : t ≤ 4 := by omega
        refine rd_for ⟨_, rfl, sa, n, ls, ms, rfl, hsp.same sa', g80, fun H3 R as s3 nR hR ht => ⟨R, rfl, ⟨_, SqL.of hR⟩, ?_⟩⟩
        have lR : as.length = (ls ++ ms).length := Paired.length ht
        have RD : R ≠ D := (ne_of_none hD nR).symm
        refine for_it (walk_list (xs := as.map V.ref)) (fun i σ H' => ∃ (y2 y3 y4 y5 y6 y7 y8 : Option V) (kvs : List (List Key × V)) (G : Tb), σ = [some (.ref sa), some (.ref D), y2, y3, y4, y5, y6, y7, y8] ∧ Same H H' ∧ (∀ b o, b ≠ D → H3 b = some o → H' b = some o) ∧ H' D = some (.dT kvs) ∧ TD kvs G ∧ BI n (ls ++ ms) i 0 F G ∧ kvs.length ≤ 4 + t * 320 + i * 4)
          ⟨_, _, _, _, _, _, _, kvs, F, rfl, Same.trans sa' s3, fun b o _ e => e, s3 _ _ hD, td, bf.begin, by omega⟩ (fun i σ H' _ h => ?_) (fun i v σ Hc Hd hi h hy => ?_) fun σ H4 h4 => ?_
        · obtain ⟨_, _, _, _, _, _, _, _, _, _, _, kp, _⟩ := h
          exact SqL.of (kp _ _ RD hR)
        · obtain ⟨rfl, hv⟩ := hy
          obtain ⟨y2, y3, y4, y5, y6, y7, y8, kvs, G, rfl, sc, kp, hDc, tdc, bi, hlc⟩ := h
          obtain ⟨b, rfl, hb⟩ := map_get hv
          obtain ⟨l, hl', htr⟩ := pget ht hb
          have hi80 : i < 80 := by
            rw [List.length_map] at hi
            omega
          have htr' : Tr Hd b l := kp _ _ (ne_of htr (s3 _ _ hD) fun z => nomatch z) htr
          obtain ⟨i1, i2⟩ := g.inR _ _ _ (List.mem_of_getElem? hl')
          refine ⟨b, _, rfl, SqT.of htr', rfl, _, _, rfl, _, _, rfl, _, _, rfl, rfl, ?_⟩
          obtain ⟨tn, tb, hTc⟩ := hT sc
          refine rd_for ⟨_, rfl, sa, _, _, _, rfl, rfl, hTc, at_ (j := 0) rfl rfl, (n : Int), rfl, by omega, by omega, ?_⟩
          refine for_it walk_range (fun j σ H' => ∃ (y2 y3 y7 y8 : Option V) (kvs : List (List Key × V)) (G : Tb), σ = [some (.ref sa), some (.ref D), y2, y3, some (VI l.1), some (VI l.2.1), some (VI l.2.2), y7, y8] ∧ Same H H' ∧ (∀ b o, b ≠ D → H3 b = some o → H' b = some o) ∧ H' D = some (.dT kvs) ∧ TD kvs G ∧ BI n (ls ++ ms) i j F G ∧ kvs.length ≤ 4 + t * 320 + i * 4 + j)
            ⟨_, _, _, _, kvs, G, rfl, sc, kp, hDc, tdc, bi, by omega⟩ (fun _ _ _ _ _ => trivial) (fun j v σ He Hf hj h hy => ?_) fun σ H5 h5 => ?_
          · obtain ⟨rfl, hv⟩ := hy
            obtain rfl : v = VI j := by rw [hv]; exact r0 j
            obtain ⟨y2, y3, y7, y8, kvs, G, rfl, se, kpe, hDe, tde, bie, hle⟩ := h
            have hjn : j < n := by omega
            refine ⟨_, rfl, _, rfl, by show 2 ≤ sizeLine; decide, fun q1 nq1 => ?_⟩
            have t1 := Same.new (o := .tup [VI j, VI l.1]) nq1
            have k1 : (upd Hf q1 (.tup [VI j, VI l.1])) q1 = some (.tup ((k2 j l.1).map kV)) := upd_same
            have se1 := Same.trans se t1
            have hD1' := t1 _ _ hDe
            have kp1 : ∀ b o, b ≠ D → H3 b = some o → (upd Hf q1 (.tup [VI j, VI l.1])) b = some o := fun b o nb e => t1 _ _ (kpe b o nb e)
            generalize upd Hf q1 (.tup [VI j, VI l.1]) = Hg at k1 se1 hD1' kp1 ⊢
            refine ⟨_, rfl, D, _, rfl, DGet.t (k := k2 j l.1) hD1' k1, _, rfl, ifB (fun hin => ?_) fun hno => ?_⟩
            · rw [tde] at hin
              obtain ⟨x, hx⟩ : ∃ x, G j l.1 = some x := by
                cases e : G j l.1 with
                | none => rw [e] at hin; cases hin
                | some x => exact ⟨x, rfl⟩
              have eT : valV kvs (k2 j l.1) = some (VI x) := by rw [tde, hx]; rfl
              -- least
              refine rd_set ⟨_, rfl, _, rfl, _, rfl, by show 2 ≤ sizeLine; decide, fun q2 nq2 => ?_⟩
              have t2 := Same.new (o := .tup [VI j, VI l.1]) nq2
              have k22 : (upd Hg q2 (.tup [VI j, VI l.1])) q2 = some (.tup ((k2 j l.1).map kV)) := upd_same
              have se2 := Same.trans se1 t2
              have hD2' := t2 _ _ hD1'
              have kp2 : ∀ b o, b ≠ D → H3 b = some o → (upd Hg q2 (.tup [VI j, VI l.1])) b = some o := fun b o nb e => t2 _ _ (kp1 b o nb e)
              generalize upd Hg q2 (.tup [VI j, VI l.1]) = Hh at k22 se2 hD2' kp2 ⊢
              have dg : DGet Hh D (.ref q2) (some (VI x)) := by
                have := DGet.t (k := k2 j l.1) hD2' k22
                rwa [eT] at this
              refine ⟨D, VI x, rfl, dg, _, rfl, _, _, rfl, rfl, ?_⟩
              dsimp only
              rw [VI_add]
              -- table[..] = min(..)
              refine ⟨_, rfl, _, rfl, D, rfl, .inr ⟨_, .inl hD2'⟩, _, rfl, _, rfl, by show 2 ≤ sizeLine; decide, fun q3 nq3 => ?_⟩
              have t3 := Same.new (o := .tup [VI j, VI l.2.1]) nq3
              have k3 : (upd Hh q3 (.tup [VI j, VI l.2.1])) q3 = some (.tup ((k2 j l.2.1).map kV)) := upd_same
              have se3 := Same.trans se2 t3
              have hD3' := t3 _ _ hD2'
              have kp3 : ∀ b o, b ≠ D → H3 b = some o → (upd Hh q3 (.tup [VI j, VI l.2.1])) b = some o := fun b o nb e => t3 _ _ (kp2 b o nb e)
              generalize upd Hh q3 (.tup [VI j, VI l.2.1]) = Hi at k3 se3 hD3' kp3 ⊢
              refine ⟨_, rfl, _, DGet.t (k := k2 j l.2.1) hD3' k3, ((x + l.2.2 : Nat) : Int), (((G j l.2.1).getD (x + l.2.2) : Nat) : Int), ?_, _, rfl, _, rfl, _, rfl, by show 2 ≤ sizeLine; decide, fun q4 nq4 => ?_⟩
              · rw [tde, getDV]
              have t4 := Same.new (o := .tup [VI j, VI l.2.1]) nq4
              have k4 : (upd Hi q4 (.tup [VI j, VI l.2.1])) q4 = some (.tup ((k2 j l.2.1).map kV)) := upd_same
              have se4 := Same.trans se3 t4
              have hD4' := t4 _ _ hD3'
              have kp4 : ∀ b o, b ≠ D → H3 b = some o → (upd Hi q4 (.tup [VI j, VI l.2.1])) b = some o := fun b o nb e => t4 _ _ (kp3 b o nb e)
              generalize upd Hi q4 (.tup [VI j, VI l.2.1]) = Hj at k4 se4 hD4' kp4 ⊢
              rw [minV]
              refine ⟨D, _, rfl, DPut.t (k := k2 j l.2.1) hD4' k4 (small (by omega)), _, _, _, _, _, _, rfl, fun c o e => ?_, fun b o nb e => ?_, upd_same, tde.put j l.2.1 _, bie.low g.inR hl' hjn hx, ?_⟩
              · rw [upd_ne (ne_of_none e nD)]
                exact se4 _ _ e
              · rw [upd_ne nb]
                exact kp4 b o nb e
              · have := length_putK kvs (k2 j l.2.1) (VI (minO (x + l.2.2) (G j l.2.1)))
                omega
            · have hx : G j l.1 = none := by
                rw [tde] at hno
                cases e : G j l.1 with
                | none => rfl
                | some x => rw [e] at hno; cases hno
              exact ⟨_, _, _, _, kvs, G, rfl, se1, kp1, hD1', tde, bie.skip hl' hx, by omega⟩
          · obtain ⟨y2, y3, y7, y8, kvs, G, rfl, se, kpe, hDe, tde, bie, hle⟩ := h5
            rw [en] at bie hle
            exact ⟨_, _, _, _, _, _, _, kvs, G, rfl, se, kpe, hDe, tde, bie.next hl', by omega⟩
        · obtain ⟨y2, y3, y4, y5, y6, y7, y8, kvs, G, rfl, sc, kp, hDc, tdc, bi, hlc⟩ := h4
          rw [List.length_map, lR] at bi hlc
          exact ⟨_, _, _, _, _, _, _, kvs, G, rfl, sc, hDc, tdc, bi.turn bf, by omega⟩
      · obtain ⟨y2, y3, y4, y5, y6, y7, y8, kvs, F, rfl, s2, hD2, td2, bf, hl2⟩ := h2
        have en1 : ((n : Int) + 1).toNat = n + 1 := by omega
        rw [en1] at bf
        exact ⟨_, rfl, q H2 D kvs F s2 hD2 td2 (bf.done g.inR (by omega))⟩
end
end K24

/-! The law's flood. -/
namespace K24
open PySem PySem.Spec PyProof.Rows L2
/-- a state's tuple -/
def St (H : Hp) (a : Addr) (c : List Nat) : Prop := H a = some (.tup (c.map VI))
abbrev Sts (H : Hp) : List Addr → List (List Nat) → Prop := Paired fun a c => St H a c
/-- tuples stand -/
def KT (H H' : Hp) : Prop := ∀ b xs, H b = some (.tup xs) → H' b = some (.tup xs)
theorem Sts.keep {H H' : Hp} {as : List Addr} {S : List (List Nat)} (r : Sts H as S) (h : KT H H') : Sts H' as S := Paired.mapP r fun _ _ z => h _ _ z
theorem KT.of {H H' : Hp} (s : Same H H') : KT H H' := fun b xs e => s _ _ e
theorem KT.trans {H H1 H2 : Hp} (a : KT H H1) (b : KT H1 H2) : KT H H2 := fun c xs e => b _ _ (a _ _ e)
theorem KT.put {H : Hp} {p : Addr} {o o' : HO} (h : H p = some o) (n : ∀ xs, o ≠ .tup xs) : KT H (upd H p o') := fun b xs e => by
  rw [upd_ne (ne_of e h fun z => n xs z.symm)]
  exact e
def kc (c : List Nat) : List Key := c.map kk
theorem kc_map (c : List Nat) : (kc c).map kV = c.map VI := by
  unfold kc
  rw [List.map_map]
  rfl
theorem kc_inj : ∀ {c d : List Nat}, kc c = kc d → c = d
  | [], [], _ => rfl
  | [], _ :: _, h => nomatch h
  | _ :: _, [], h => nomatch h
  | a :: c, b :: d, h => by
    unfold kc at h
    rw [List.map_cons, List.map_cons] at h
    injection h with h1 h2
    rw [kk_inj h1, kc_inj (c := c) (d := d) h2]
/-- the states known -/
def TK (kvs : List (List Key × V)) (S : List (List Nat)) : Prop := ∀ c : List Nat, (valV kvs (kc c)).isSome = true ↔ c ∈ S
theorem TK.put {kvs : List (List Key × V)} {S : List (List Nat)} (t : TK kvs S) (c : List Nat) (v : V) : TK (putK kvs (kc c) v) (S ++ [c]) := fun x => by
  rw [valV_put]
  by_cases h : x = c
  · subst h
    rw [if_pos rfl]
    simp
  · rw [if_neg fun z => h (kc_inj z), t x]
    simp [h]
theorem up_map {c : List Nat} {s : Nat} : (c.map VI).set s (.int ((cn c s : Int) + 1)) = (up c s).map VI := by
  unfold up
  rw [List.map_set]
  rfl
section
variable {P : Program} {w : World} {K : PySem.W.Frag} {mg : Str → Option Value} {base : Heap}
theorem rd_rep {σ : L2.St} {H : Hp} {Q : VK} {sa : Addr} {n : Nat} {ys : List V} (h0 : σ[0]? = some (some (.ref sa))) (hT : SqT K H sa (VI n :: ys)) (n1 : 1 ≤ n) (n4 : n ≤ 1000)
    (q : ∀ p H', Same H H' → H' p = some (.tup ((List.replicate n 0).map VI)) → Q (.ref p) H') : tOp (rRepA K) (tTup (tCons (tC (.int 0)) tNil)) (tOp (rIxT K) (tVar 0) (tC (.int 0))) σ H Q := by
  refine ⟨by show 1 ≤ sizeLine; decide, fun l nl => ?_⟩
  have sl := Same.new (o := .tup [V.int 0]) nl
  refine ⟨_, h0, sa, _, _, _, rfl, rfl, Same.sqT sl hT, at_ (j := 0) rfl rfl, l, (n : Int), [.int 0], rfl, rfl, SqT.of upd_same, by simp, by omega, by omega, by decide, fun h1 => ?_, fun h2 p np => ?_⟩
  · have e : n = 1 := by omega
    subst e
    exact q l _ sl upd_same
  · have sp := Same.new (o := .tup (List.replicate ((n : Int)).toNat [V.int 0]).flatten) np
    refine q p _ (Same.trans sl sp) ?_
    have e : ∀ m : Nat, (List.replicate m [V.int 0]).flatten = (List.replicate m 0).map VI := fun m => by
      induction m with
      | zero => rfl
      | succ m ih =>
        rw [List.replicate_succ, List.replicate_succ, List.flatten_cons, List.map_cons, ih]
        rfl
    rw [upd_same, show ((n : Int)).toNat = n by omega, e]
def sp_law_flood : Sp := fun vs H Q _ => ∃ (s : Addr) (n : Nat) (ls ms : List Lk), vs = [.ref s, .int 3] ∧ SpecOk H s n ls ms ∧ Good n ls ms ∧
  ∀ H' F as S, Same H H' → H' F = some (.lst (as.map V.ref)) → Sts H' as S → Closed n (ls ++ ms) S → S.length ≤ 256 → Q (.ref F) H'
theorem ok_law_flood (T : Txt K mg) : FnOk P w K mg base CX0 3 T.f_law_flood T.d_law_flood ["_law_spec_here", "_law_bound"] sp_law_flood := by
  refine T.F_law_flood.ok sc_law_flood (fun vs H Q E h => ?_) (fun cdv A outer s H vs Q E hr h => ?_)
  · obtain ⟨s, n, ls, ms, rfl, _⟩ := h
    rfl
  · obtain ⟨sa, n, ls, ms, rfl, hsp, g, q⟩ := h
    have g1 := g.n1
    have g4 := g.n4
    have hT : ∀ {H' : Hp}, Same H H' → ∃ (tn tb : Addr), SqT K H' sa [VI n, .ref tn, .ref tb] := fun s => by
      obtain ⟨tn, tb, _, _, e, _⟩ := hsp
      exact ⟨tn, tb, SqT.of (s _ _ e)⟩
    refine ⟨_, (pss_cons (ps_set (i := 2) sc_law_flood.nd rfl (.inl rfl) (pe_op op_repA (pe_tup (pa_cons pe_int pa_nil)) (pe_ix ix_tup (pv 0) pe_int (fun _ _ => rfl))))
      (pss_cons (ps_set (i := 3) sc_law_flood.nd rfl (.inl rfl) (pe_lst (pa_cons (pv 2) pa_nil)))
      (pss_cons (ps_set (i := 4) sc_law_flood.nd rfl (.inl rfl) (pe_dispT1 (hu_of hr) (pv 2) pe_bl))
      (pss_cons (ps_for PassesOwn.never rfl (pi_range1 (by rfl) T.n_range (pa_cons pe_int pa_nil)) (pg_name (i := 5) sc_law_flood.nd rfl (.inl rfl)) (pss_cons (ps_if (pt_cmpR op_ge (pv 5) (pe_callB call_len_seq (by rfl) T.n_len (by decide +kernel) (pa_cons (pv 3) pa_nil)) (nomark _)) (pss_one ps_break) pss_nil)
      (pss_one (ps_for PassesOwn.never rfl (pi_range1 (by rfl) T.n_range (pa_cons (pe_ix ix_tup (pv 0) pe_int (fun _ _ => rfl)) pa_nil)) (pg_name (i := 6) sc_law_flood.nd rfl (.inl rfl)) (pss_one (ps_if (PW.pt (pw_and (pt_cmpR op_lt (pe_ix ix_tup (pe_ix ix_list (pv 3) (pv 5) (fun _ _ => rfl)) (pv 6) (fun _ _ => rfl)) (pv 1) (nomark _)) (pw_and1 (pt_val (pe_call (ok_law_free T) (hr.mono (by decide)) (by rfl) T.m_law_free T.F_law_free.kp (b_law_free T) .nil pass0 (pa_cons (pv 0) (pa_cons (pe_callTy call_list_of (by rfl) T.n_list (by decide +kernel) (pa_cons (pe_ix ix_list (pv 3) (pv 5) (fun _ _ => rfl)) pa_nil)) (pa_cons (pv 6) pa_nil)))))))) (pss_cons (ps_set (i := 7) sc_law_flood.nd rfl (.inl rfl) (pe_callTy call_list_of (by rfl) T.n_list (by decide +kernel) (pa_cons (pe_ix ix_list (pv 3) (pv 5) (fun _ _ => rfl)) pa_nil)))
      (pss_cons (ps_asg (pe_op op_add (pe_ix ix_list (pv 7) (pv 6) (fun _ _ => rfl)) pe_int) (pg_sub (pv 7) (pv 6) set_list))
      (pss_one (ps_if (pt_cmp (pc_dnotin (hu_of hr) (pe_callTy call_tuple_of (by rfl) T.n_tuple (by decide +kernel) (pa_cons (pv 7) pa_nil)) (pv 4))) (pss_cons (ps_dput (hu_of hr) (pv 4) (pe_callTy call_tuple_of (by rfl) T.n_tuple (by decide +kernel) (pa_cons (pv 7) pa_nil)) pe_bl rfl)
      (pss_one (ps_expr (pe_bm PySem.F.plainAttrs_list PySem.F.slot_list_append PySem.F.type_list_append mt_append (pv 3) (pa_cons (pe_callTy call_tuple_of (by rfl) T.n_tuple (by decide +kernel) (pa_cons (pv 7) pa_nil)) pa_nil))))) pss_nil)))) pss_nil))))))
      (pss_one (ps_ret (pv 3))))))), ?_⟩
    obtain ⟨tn, tb, hT0⟩ := hT (fun _ _ e => e)
    refine rd_set (rd_rep rfl hT0 g1 (by omega) fun B H1 s1 hB => ?_)
    refine rd_set ⟨_, rfl, by show 1 ≤ sizeLine; decide, fun F nF => ?_⟩
    have nF0 := Same.none s1 nF
    have s2 := Same.new (o := .lst [V.ref B]) nF
    have hF2 : (upd H1 F (.lst [V.ref B])) F = some (.lst ([B].map V.ref)) := upd_same
    have hB2 := s2 _ _ hB
    have s12 := Same.trans s1 s2
    generalize upd H1 F (.lst [V.ref B]) = H2 at s12 hF2 hB2 ⊢
    have hBk : H2 B = some (.tup ((kc (List.replicate n 0)).map kV)) := by rw [kc_map]; exact hB2
    refine rd_set fun D nD => ?_
    have nD0 := Same.none s12 nD
    have sD := Same.new (o := .dT []) nD
    refine ⟨_, rfl, upd_same, B, kc (List.replicate n 0), rfl, sD _ _ hBk, ?_⟩
    rw [upd_upd]
    have s3 := Same.new (o := .dT [(kc (List.replicate n 0), V.bl true)]) nD
    have hD3 : (upd H2 D (.dT [(kc (List.replicate n 0), V.bl true)])) D = _ := upd_same
    have hF3 := s3 _ _ hF2
    have hB3 := s3 _ _ hB2
    have s13 := Same.trans s12 s3
    generalize upd H2 D (.dT [(kc (List.replicate n 0), V.bl true)]) = H3 at s13 hD3 hF3 hB3 ⊢
    have tk0 : TK [(kc (List.replicate n 0), V.bl true)] [List.replicate n 0] := by
      have t : TK [] [] := fun c => ⟨fun z => (nomatch z), fun z => by simp at z⟩
      have := t.put (List.replicate n 0) (V.bl true)
      exact this
    refine rd_seq (rd_for ⟨5000, rfl, by decide, by decide, ?_⟩)
    refine for_it walk_range (fun p σ H' => ∃ (y5 y6 y7 : Option V) (as : List Addr) (S : List (List Nat)) (kvs : List (List Key × V)), σ = [some (.ref sa), some (.int 3), some (.ref B), some (.ref F), some (.ref D), y5, y6, y7] ∧ Same H H' ∧ H' F = some (.lst (as.map V.ref)) ∧ Sts H' as S ∧
        H' D = some (.dT kvs) ∧ TK kvs S ∧ kvs.length ≤ S.length ∧ Fl n (ls ++ ms) S p 0)
      ⟨_, _, _, [B], [List.replicate n 0], _, rfl, s13, hF3, .cons hB3 .nil, hD3, tk0, Nat.le_refl _, Fl.init n _⟩ (fun _ _ _ _ _ => trivial) (fun p v σ Ha Hb hp h hy => ?_) fun σ H4 h4 => ?_
    · obtain ⟨rfl, hv⟩ := hy
      obtain rfl : v = VI p := by rw [hv]; exact r0 p
      obtain ⟨y5, y6, y7, as, S, kvs, rfl, sa', hF, hS, hD, tk, hl, fl⟩ := h
      have la : as.length = S.length := Paired.length hS
      refine rd_seq ⟨_, rfl, _, rfl, F, _, rfl, .inl (SqL.of hF), _, _, rfl, rfl, _, rfl, if2 (fun hge => ?_) fun hlt => ?_⟩
      · -- all are read
        have hge' : S.length ≤ p := by
          rw [List.length_map, la] at hge
          omega
        exact ⟨_, rfl, q _ F as S sa' hF hS (fl.closed hge') (fl.small g4)⟩
      · have hlt' : p < S.length := by
          rw [List.length_map, la] at hlt
          omega
        obtain ⟨c, hc⟩ : ∃ c, S[p]? = some c := ⟨_, List.getElem?_eq_getElem hlt'⟩
        obtain ⟨tn, tb, hTb⟩ := hT sa'
        dsimp only [tNext]
        refine rd_for ⟨_, rfl, sa, _, _, _, rfl, rfl, hTb, at_ (j := 0) rfl rfl, (n : Int), rfl, by omega, by omega, ?_⟩
        refine for_it walk_range (fun k σ H' => ∃ (y6 y7 : Option V) (as : List Addr) (S : List (List Nat)) (kvs : List (List Key × V)), σ = [some (.ref sa), some (.int 3), some (.ref B), some (.ref F), some (.ref D), some (VI p), y6, y7] ∧ Same H H' ∧ H' F = some (.lst (as.map V.ref)) ∧ Sts H' as S ∧
            H' D = some (.dT kvs) ∧ TK kvs S ∧ kvs.length ≤ S.length ∧ Fl n (ls ++ ms) S p k ∧ S[p]? = some c)
          ⟨_, _, as, S, kvs, rfl, sa', hF, hS, hD, tk, hl, fl, hc⟩ (fun _ _ _ _ _ => trivial) (fun k v σ Hc Hd hk h hy => ?_) fun σ H5 h5 => ?_
        · obtain ⟨rfl, hv⟩ := hy
          obtain rfl : v = VI k := by rw [hv]; exact r0 k
          obtain ⟨y6, y7, as, S, kvs, rfl, sc, hF, hS, hD, tk, hl, fl, hc⟩ := h
          have hkn : k < n := by omega
          have lc : c.length = n := (fl.ok c (List.mem_of_getElem? hc)).len
          have l256 := fl.small g4
          obtain ⟨a, ha, hac⟩ := pgetR hS hc
          have ga : (as.map V.ref)[p]? = some (.ref a) := by rw [List.getElem?_map, ha]; rfl
          have la : as.length = S.length := Paired.length hS
          refine ⟨_, rfl, _, rfl, F, _, _, _, rfl, rfl, SqL.of hF, at_ rfl ga, _, rfl, a, _, _, _, rfl, rfl, SqT.of hac, at_ rfl (cget (by omega)), _, rfl, _, _, rfl, rfl, _, rfl, if2 (fun h3 => ?_) fun h3 => ?_⟩
          · have h3' : cn c k < 3 := by omega
            refine ⟨_, rfl, _, rfl, _, rfl, F, _, _, _, rfl, rfl, SqL.of hF, at_ rfl ga, a, _, rfl, .inr (SqT.of hac), fun M nM => ?_⟩
            have sM := Same.new (o := .lst (c.map VI)) nM
            have hM : (upd Hd M (.lst (c.map VI))) M = _ := upd_same
            have sdM := Same.trans sc sM
            have hF1 := sM _ _ hF
            have hS1 := hS.keep (KT.of sM)
            have hD1 := sM _ _ hD
            generalize upd Hd M (.lst (c.map VI)) = H6 at hM sdM hF1 hS1 hD1 ⊢
            refine ⟨_, rfl, sa, M, n, k, ls, ms, c, rfl, hsp.same sdM, g, SqL.of hM, lc, hkn, fun H7 b s7 hb => ?_⟩
            have s07 := Same.trans sdM s7
            have hF7 := s7 _ _ hF1
            have hS7 := hS1.keep (KT.of s7)
            have hD7 := s7 _ _ hD1
            refine ⟨b, rfl, ifB (fun hb1 => ?_) fun hb0 => ?_⟩
            · have hfree := hb.mp hb1
              -- later
              obtain ⟨a', ha', hac'⟩ := pgetR hS7 hc
              have eaa : a' = a := by
                rw [ha] at ha'
                exact (Option.some.inj ha').symm
              rw [eaa] at hac'
              refine rd_set ⟨_, rfl, _, rfl, F, _, _, _, rfl, rfl, SqL.of hF7, at_ rfl ga, a, _, rfl, .inr (SqT.of hac'), fun L nL => ?_⟩
              have sL := Same.new (o := .lst (c.map VI)) nL
              have nL0 := Same.none s07 nL
              have hL : (upd H7 L (.lst (c.map VI))) L = _ := upd_same
              have FL : F ≠ L := ne_of_none hF7 nL
              have DL : D ≠ L := ne_of_none hD7 nL
              have s08 := Same.trans s07 sL
              have hF8 := sL _ _ hF7
              have hS8 := hS7.keep (KT.of sL)
              have hD8 := sL _ _ hD7
              generalize upd H7 L (.lst (c.map VI)) = H8 at hL s08 hF8 hS8 hD8 ⊢
              refine rd_seq ⟨_, rfl, _, rfl, L, _, _, _, rfl, rfl, SqL.of hL, at_ rfl (cget (by omega)), _, _, rfl, rfl, _, rfl, _, rfl, L, _, _, k, rfl, rfl, hL, ixN_at (by rw [List.length_map]; omega), ?_⟩
              dsimp only
              rw [up_map]
              have s09 : Same H (upd H8 L (.lst ((up c k).map VI))) := fun b o e => by rw [upd_ne (ne_of_none e nL0)]; exact s08 _ _ e
              have hL9 : (upd H8 L (.lst ((up c k).map VI))) L = some (.lst ((up c k).map VI)) := upd_same
              have hF9 : (upd H8 L (.lst ((up c k).map VI))) F = some (.lst (as.map V.ref)) := by rw [upd_ne FL]; exact hF8
              have hD9 : (upd H8 L (.lst ((up c k).map VI))) D = some (.dT kvs) := by rw [upd_ne DL]; exact hD8
              have hS9 : Sts (upd H8 L (.lst ((up c k).map VI))) as S := hS8.keep (KT.put hL fun _ z => nomatch z)
              generalize upd H8 L (.lst ((up c k).map VI)) = H9 at s09 hL9 hF9 hD9 hS9 ⊢
              -- if tuple(later) not in known
              refine ⟨_, rfl, L, _, rfl, .inl ⟨SqL.of hL9, fun t1 n1 => ?_⟩⟩
              have t1s := Same.new (o := .tup ((up c k).map VI)) n1
              have k1 : (upd H9 t1 (.tup ((up c k).map VI))) t1 = some (.tup ((kc (up c k)).map kV)) := by rw [kc_map]; exact upd_same
              have s010 := Same.trans s09 t1s
              have hL10 := t1s _ _ hL9
              have hF10 := t1s _ _ hF9
              have hD10 := t1s _ _ hD9
              have hS10 := hS9.keep (KT.of t1s)
              generalize upd H9 t1 (.tup ((up c k).map VI)) = H10 at k1 s010 hL10 hF10 hD10 hS10 ⊢
              refine ⟨_, rfl, D, _, rfl, DGet.t (k := kc (up c k)) hD10 k1, _, rfl, ?_⟩
              cases hin : (valV kvs (kc (up c k))).isSome with
              | true =>
                refine iteF ?_
                exact ⟨_, _, as, S, kvs, rfl, s010, hF10, hS10, hD10, tk, hl, fl.skip (fun c' hc' _ _ => by
                  rw [hc] at hc'
                  cases hc'
                  exact (tk _).mp hin), hc⟩
              | false =>
                refine iteT ?_
                have hno : up c k ∉ S := fun m => by
                  rw [(tk _).mpr m] at hin
                  cases hin
                -- known[tuple(later)] = True
                refine rd_seq ⟨_, rfl, _, rfl, L, _, rfl, .inl ⟨SqL.of hL10, fun t2 n2 => ?_⟩⟩
                have t2s := Same.new (o := .tup ((up c k).map VI)) n2
                have k2' : (upd H10 t2 (.tup ((up c k).map VI))) t2 = some (.tup ((kc (up c k)).map kV)) := by rw [kc_map]; exact upd_same
                have s011 := Same.trans s010 t2s
                have hL11 := t2s _ _ hL10
                have hF11 := t2s _ _ hF10
                have hD11 := t2s _ _ hD10
                have hS11 := hS10.keep (KT.of t2s)
                generalize upd H10 t2 (.tup ((up c k).map VI)) = H11 at k2' s011 hL11 hF11 hD11 hS11 ⊢
                refine ⟨D, _, rfl, DPut.t (k := kc (up c k)) hD11 k2' (small (by omega)), ?_⟩
                have FD : F ≠ D := ne_of hF11 hD11 fun z => nomatch z
                have LD : L ≠ D := DL.symm
                have hF12 : (upd H11 D (.dT (putK kvs (kc (up c k)) (V.bl true)))) F = some (.lst (as.map V.ref)) := by rw [upd_ne FD]; exact hF11
                have hL12 : (upd H11 D (.dT (putK kvs (kc (up c k)) (V.bl true)))) L = some (.lst ((up c k).map VI)) := by rw [upd_ne LD]; exact hL11
                have hD12 : (upd H11 D (.dT (putK kvs (kc (up c k)) (V.bl true)))) D = some (.dT (putK kvs (kc (up c k)) (V.bl true))) := upd_same
                have s012 : Same H (upd H11 D (.dT (putK kvs (kc (up c k)) (V.bl true)))) := fun b o e => by rw [upd_ne (ne_of_none e nD0)]; exact s011 _ _ e
                have hS12 := hS11.keep (KT.put (o' := .dT (putK kvs (kc (up c k)) (V.bl true))) hD11 fun _ z => nomatch z)
                generalize upd H11 D (.dT (putK kvs (kc (up c k)) (V.bl true))) = H12 at hF12 hL12 hD12 s012 hS12 ⊢
                -- found.append(tuple(later))
                dsimp only
                refine ⟨_, rfl, .inl ⟨rfl, _, SqL.of hF12⟩, _, rfl, L, _, rfl, .inl ⟨SqL.of hL12, fun t3 n3 => ?_⟩⟩
                have t3s := Same.new (o := .tup ((up c k).map VI)) n3
                have hF13 := t3s _ _ hF12
                refine ⟨F, _, _, rfl, rfl, hF13, ?_, _, _, as ++ [t3], S ++ [up c k], putK kvs (kc (up c k)) (V.bl true), rfl, fun b o e => ?_, ?_, ?_, ?_, tk.put _ _, ?_, fl.add hc hkn h3' hfree hno, ?_⟩
                · rw [List.length_map]
                  exact small (by omega)
                · rw [upd_ne (ne_of_none e nF0)]
                  exact t3s _ _ (s012 _ _ e)
                · rw [upd_same, List.map_append]
                  rfl
                · refine pappend ((hS12.keep (KT.of t3s)).keep (KT.put hF13 fun _ z => nomatch z)) (.cons ?_ .nil)
                  show (upd (upd H12 t3 (.tup ((up c k).map VI))) F _) t3 = _
                  rw [upd_ne (ne_of_none hF12 n3).symm]
                  exact upd_same
                · rw [upd_ne FD.symm]
                  exact t3s _ _ hD12
                · have := length_putK kvs (kc (up c k)) (V.bl true)
                  rw [List.length_append]
                  show _ ≤ S.length + 1
                  omega
                · have hp' : p < S.length := (List.getElem?_eq_some_iff.mp hc).1
                  rw [List.getElem?_append_left hp']
                  exact hc
            · exact ⟨_, _, as, S, kvs, rfl, s07, hF7, hS7, hD7, tk, hl, fl.skip (fun c' hc' _ hf => by
                rw [hc] at hc'
                cases hc'
                rw [hb.mpr hf] at hb0
                cases hb0), hc⟩
          · exact ⟨_, _, as, S, kvs, rfl, sc, hF, hS, hD, tk, hl, fl.skip (fun c' hc' hlt' _ => by
              rw [hc] at hc'
              cases hc'
              exact absurd hlt' (by omega)), hc⟩
        · obtain ⟨y6, y7, as, S, kvs, rfl, sc, hF, hS, hD, tk, hl, fl, hc⟩ := h5
          have en : ((n : Int)).toNat = n := by omega
          rw [en] at fl
          exact ⟨_, _, _, as, S, kvs, rfl, sc, hF, hS, hD, tk, hl, fl.next⟩
    · obtain ⟨y5, y6, y7, as, S, kvs, rfl, s4, hF, hS, hD, tk, hl, fl⟩ := h4
      have l256 := fl.small g4
      exact ⟨_, rfl, q _ F as S s4 hF hS (fl.closed (Nat.le_trans l256 (by decide))) l256⟩
end
end K24

/-! The least counts. -/
namespace K24
open PySem PySem.Spec PyProof.Rows L2
/-- the least counts' dictionary -/
def TG (kvs : List (NestedKey × V)) (G : Lc) : Prop := ∀ s j o : Nat, valV kvs (nk s j o) = (G s j o).map VI
theorem TG.put {kvs : List (NestedKey × V)} {G : Lc} (t : TG kvs G) (s j o v : Nat) : TG (putK kvs (nk s j o) (VI v)) (setG G s j o v) := fun s' j' o' => by
  rw [valV_put]
  unfold setG
  by_cases h : s' = s ∧ j' = j ∧ o' = o
  · obtain ⟨rfl, rfl, rfl⟩ := h
    rw [if_pos rfl, if_pos ⟨rfl, rfl, rfl⟩]
    rfl
  · rw [if_neg fun z => by
      obtain ⟨z1, z2, z3⟩ := nk_inj z
      exact h ⟨by omega, by omega, by omega⟩, if_neg h]
    exact t s' j' o'
theorem DN.kp {P : Program} {w : World} {H H' : Hp} {d : Addr} {kvs : List (NestedKey × V)} (x : DN P w H d kvs) (s : Same H H') : DN P w H' d kvs := x.keeps (fun o e => s _ _ e) fun c ys e => s _ _ e
theorem DN.not_tup {P : Program} {w : World} {H : Hp} {d : Addr} {kvs : List (NestedKey × V)} (x : DN P w H d kvs) {b : Addr} {xs : List V} (e : H b = some (.tup xs)) : b ≠ d :=
  let ⟨_, _, _, _, _, h⟩ := x
  ne_of e h fun z => nomatch z
theorem DN.some {P : Program} {w : World} {H : Hp} {d : Addr} {kvs : List (NestedKey × V)} (x : DN P w H d kvs) : H d ≠ none := by
  obtain ⟨_, _, _, _, _, h⟩ := x
  rw [h]
  exact fun z => nomatch z
/-- what is read after i states, and of the next one the steps below q -/
def P1 (n : Nat) (L : List Lk) (S : List (List Nat)) (i : Nat) : List Nat → Nat → Nat → Prop := fun c s o => c ∈ S.take i ∧ s < n ∧ o < n ∧ cn c s < 3 ∧ Free L c s
def P2 (n : Nat) (L : List Lk) (S : List (List Nat)) (i : Nat) (c0 : List Nat) (q : Nat) : List Nat → Nat → Nat → Prop := fun c s o => P1 n L S i c s o ∨ (c = c0 ∧ s < q ∧ o < n ∧ cn c s < 3 ∧ Free L c s)
def P3 (n : Nat) (L : List Lk) (S : List (List Nat)) (i : Nat) (c0 : List Nat) (q k : Nat) : List Nat → Nat → Nat → Prop := fun c s o => P2 n L S i c0 q c s o ∨ (c = c0 ∧ s = q ∧ o < k)
section
variable {n : Nat} {L : List Lk} {S : List (List Nat)} {i q k : Nat} {c0 : List Nat} {G : Lc}
theorem lc1_0 (h : LC (fun _ _ _ => False) G) : LC (P1 n L S 0) G := h.congr fun c s o => ⟨fun z => z.elim, fun z => by
  obtain ⟨z, _⟩ := z
  simp at z⟩
theorem lc12 (h : LC (P1 n L S i) G) : LC (P2 n L S i c0 0) G := h.congr fun c s o => ⟨.inl, fun z => by
  rcases z with z | ⟨_, z, _⟩
  · exact z
  · exact absurd z (Nat.not_lt_zero _)⟩
theorem lc21 (hc : S[i]? = some c0) (h : LC (P2 n L S i c0 n) G) : LC (P1 n L S (i + 1)) G := h.congr fun c s o => ⟨fun z => by
  rcases z with ⟨z, r⟩ | ⟨rfl, r⟩
  · exact ⟨(mem_take_succ hc).mpr (.inl z), r⟩
  · exact ⟨(mem_take_succ hc).mpr (.inr rfl), r⟩, fun z => by
  obtain ⟨z, r⟩ := z
  rcases (mem_take_succ hc).mp z with z | rfl
  · exact .inl ⟨z, r⟩
  · exact .inr ⟨rfl, r⟩⟩
theorem lc2skip (hn : ¬ (cn c0 q < 3 ∧ Free L c0 q)) (h : LC (P2 n L S i c0 q) G) : LC (P2 n L S i c0 (q + 1)) G := h.congr fun c s o => ⟨fun z => by
  rcases z with z | ⟨e, z, r⟩
  · exact .inl z
  · exact .inr ⟨e, by omega, r⟩, fun z => by
  rcases z with z | ⟨e, z, r1, r2, r3⟩
  · exact .inl z
  · by_cases g : s = q
    · subst e g
      exact absurd ⟨r2, r3⟩ hn
    · exact .inr ⟨e, by omega, r1, r2, r3⟩⟩
theorem lc23 (h : LC (P2 n L S i c0 q) G) : LC (P3 n L S i c0 q 0) G := h.congr fun c s o => ⟨.inl, fun z => by
  rcases z with z | ⟨_, _, z⟩
  · exact z
  · exact absurd z (Nat.not_lt_zero _)⟩
theorem lc32 (h3 : cn c0 q < 3) (hf : Free L c0 q) (h : LC (P3 n L S i c0 q n) G) : LC (P2 n L S i c0 (q + 1)) G := h.congr fun c s o => ⟨fun z => by
  rcases z with (z | ⟨e, z, r⟩) | ⟨rfl, rfl, r⟩
  · exact .inl z
  · exact .inr ⟨e, by omega, r⟩
  · exact .inr ⟨rfl, by omega, r, h3, hf⟩, fun z => by
  rcases z with z | ⟨e, z, r1, r2⟩
  · exact .inl (.inl z)
  · by_cases g : s = q
    · exact .inr ⟨e, g, r1⟩
    · exact .inl (.inr ⟨e, by omega, r1, r2⟩)⟩
theorem lc3 (h : LC (P3 n L S i c0 q k) G) : LC (P3 n L S i c0 q (k + 1)) (setG G q (cn c0 q + 1) k (minO (cn c0 k) (G q (cn c0 q + 1) k))) := (h.put c0 q k).congr fun c s o => ⟨fun z => by
  rcases z with (z | ⟨e1, e2, z⟩) | ⟨e1, e2, e3⟩
  · exact .inl z
  · exact .inr ⟨e1, e2, by omega⟩
  · exact .inr ⟨e1, e2, by omega⟩, fun z => by
  rcases z with z | ⟨e1, e2, z⟩
  · exact .inl (.inl z)
  · by_cases g : o = k
    · exact .inr ⟨e1, e2, g⟩
    · exact .inl (.inr ⟨e1, e2, by omega⟩)⟩
theorem lcEnd (h : LC (P1 n L S S.length) G) : LC (AllP n L S) G := h.congr fun c s o => by
  unfold P1 AllP
  rw [List.take_length]
end
section
variable {P : Program} {w : World} {K : PySem.W.Frag} {mg : Str → Option Value} {base : Heap}
def sp_law_least_counts (P : Program) (w : World) (K : PySem.W.Frag) : Sp := fun vs H Q _ => ∃ (s r : Addr) (n : Nat) (ls ms : List Lk) (as : List Addr) (S : List (List Nat)), vs = [.ref s, .ref r, .int 3] ∧ SpecOk H s n ls ms ∧ Good n ls ms ∧ H r = some (.lst (as.map V.ref)) ∧ Sts H as S ∧ Closed n (ls ++ ms) S ∧ S.length ≤ 256 ∧
  ∀ H' d kvs G, Same H H' → DN P w H' d kvs → TG kvs G → LC (AllP n (ls ++ ms) S) G → Q (.ref d) H'
theorem ok_law_least_counts (T : Txt K mg) : FnOk P w K mg base CX0 3 T.f_law_least_counts T.d_law_least_counts ["_law_spec_here", "_law_states", "_law_bound"] (sp_law_least_counts P w K) := by
  refine T.F_law_least_counts.ok sc_law_least_counts (fun vs H Q E h => ?_) (fun cdv A outer s H vs Q E hr h => ?_)
  · obtain ⟨s, r, n, ls, ms, as, S, rfl, _⟩ := h
    rfl
  · obtain ⟨sa, R, n, ls, ms, as, S, rfl, hsp, g, hR, hS, cl, l256, q⟩ := h
    have g4 := g.n4
    have hT : ∀ {H' : Hp}, Same H H' → ∃ (tn tb : Addr), SqT K H' sa [VI n, .ref tn, .ref tb] := fun s => by
      obtain ⟨tn, tb, _, _, e, _⟩ := hsp
      exact ⟨tn, tb, SqT.of (s _ _ e)⟩
    have la : as.length = S.length := Paired.length hS
    have en : ((n : Int)).toNat = n := by omega
    refine ⟨_, (pss_cons (ps_set (i := 3) sc_law_least_counts.nd rfl (.inl rfl) pe_dnewN)
      (pss_cons (ps_for PassesOwn.never rfl (pi_list (pv 1)) (pg_name (i := 4) sc_law_least_counts.nd rfl (.inl rfl)) (pss_one (ps_for PassesOwn.never rfl (pi_range1 (by rfl) T.n_range (pa_cons (pe_ix ix_tup (pv 0) pe_int (fun _ _ => rfl)) pa_nil)) (pg_name (i := 5) sc_law_least_counts.nd rfl (.inl rfl)) (pss_one (ps_if (PW.pt (pw_and (pt_cmpR op_lt (pe_ix ix_tup (pv 4) (pv 5) (fun _ _ => rfl)) (pv 2) (nomark _)) (pw_and1 (pt_val (pe_call (ok_law_free T) (hr.mono (by decide)) (by rfl) T.m_law_free T.F_law_free.kp (b_law_free T) .nil pass0 (pa_cons (pv 0) (pa_cons (pe_callTy call_list_of (by rfl) T.n_list (by decide +kernel) (pa_cons (pv 4) pa_nil)) (pa_cons (pv 5) pa_nil)))))))) (pss_one (ps_for PassesOwn.never rfl (pi_range1 (by rfl) T.n_range (pa_cons (pe_ix ix_tup (pv 0) pe_int (fun _ _ => rfl)) pa_nil)) (pg_name (i := 6) sc_law_least_counts.nd rfl (.inl rfl)) (pss_cons (ps_set (i := 7) sc_law_least_counts.nd rfl (.inl rfl) (pe_tup (pa_cons (pe_tup (pa_cons (pv 5) (pa_cons (pe_op op_add (pe_ix ix_tup (pv 4) (pv 5) (fun _ _ => rfl)) pe_int) pa_nil))) (pa_cons (pv 6) pa_nil))))
      (pss_one (ps_dputN (hu64 hr) (pv 3) (pv 7) (pe_callB (call_min2 rfl) (by rfl) T.n_min (by decide +kernel) (pa_cons (pe_ix ix_tup (pv 4) (pv 6) (fun _ _ => rfl)) (pa_cons (pe_dget2N (hu64 hr) (pv 3) (pv 7) (pe_ix ix_tup (pv 4) (pv 6) (fun _ _ => rfl)) ⟨rfl, rfl, rfl, rfl⟩) pa_nil))) rfl))))) pss_nil)))))
      (pss_one (ps_ret (pv 3))))), ?_⟩
    refine rd_set fun D o nD dn => ?_
    have sD := Same.new (o := o) nD
    generalize upd H D o = H0 at sD dn ⊢
    refine rd_seq (rd_for ⟨_, rfl, R, rfl, ⟨_, SqL.of (sD _ _ hR)⟩, ?_⟩)
    refine for_it (walk_list (xs := as.map V.ref)) (fun i σ H' => ∃ (y4 y5 y6 y7 : Option V) (kvs : List (NestedKey × V)) (G : Lc), σ = [some (.ref sa), some (.ref R), some (.int 3), some (.ref D), y4, y5, y6, y7] ∧ Same H H' ∧ DN P w H' D kvs ∧ TG kvs G ∧ LC (P1 n (ls ++ ms) S i) G ∧ kvs.length ≤ i * 16)
      ⟨_, _, _, _, [], _, rfl, sD, dn, fun _ _ _ => rfl, lc1_0 LC.start, Nat.zero_le _⟩ (fun i σ H' _ h => ?_) (fun i v σ Ha Hb hi h hy => ?_) fun σ H4 h4 => ?_
    · obtain ⟨_, _, _, _, _, _, _, s, _⟩ := h
      exact SqL.of (s _ _ hR)
    · obtain ⟨rfl, hv⟩ := hy
      obtain ⟨y4, y5, y6, y7, kvs, G, rfl, sa', dn, tg, lc, hl⟩ := h
      obtain ⟨a, rfl, ha⟩ := map_get hv
      obtain ⟨c, hc, hac⟩ := pget hS ha
      have lcn : c.length = n := (cl.ok c (List.mem_of_getElem? hc)).len
      have hi256 : i < 256 := by
        have := (List.getElem?_eq_some_iff.mp hc).1
        omega
      obtain ⟨tn, tb, hTb⟩ := hT sa'
      refine rd_for ⟨_, rfl, sa, _, _, _, rfl, rfl, hTb, at_ (j := 0) rfl rfl, (n : Int), rfl, by omega, by omega, ?_⟩
      refine for_it walk_range (fun k σ H' => ∃ (y5 y6 y7 : Option V) (kvs : List (NestedKey × V)) (G : Lc), σ = [some (.ref sa), some (.ref R), some (.int 3), some (.ref D), some (.ref a), y5, y6, y7] ∧ Same H H' ∧ DN P w H' D kvs ∧ TG kvs G ∧ LC (P2 n (ls ++ ms) S i c k) G ∧ kvs.length ≤ i * 16 + k * 4)
        ⟨_, _, _, kvs, G, rfl, sa', dn, tg, lc12 lc, by omega⟩ (fun _ _ _ _ _ => trivial) (fun k v σ Hc Hd hk h hy => ?_) fun σ H5 h5 => ?_
      · obtain ⟨rfl, hv⟩ := hy
        obtain rfl : v = VI k := by rw [hv]; exact r0 k
        obtain ⟨y5, y6, y7, kvs, G, rfl, sc, dn, tg, lc, hl⟩ := h
        have hkn : k < n := by omega
        have hac' : SqT K Hd a (c.map VI) := SqT.of (sc _ _ hac)
        refine ⟨_, rfl, _, rfl, a, _, _, _, rfl, rfl, hac', at_ rfl (cget (by omega)), _, rfl, _, _, rfl, rfl, _, rfl, if2 (fun h3 => ?_) fun h3 => ?_⟩
        · have h3' : cn c k < 3 := by omega
          refine ⟨_, rfl, _, rfl, a, _, rfl, .inr hac', fun M nM => ?_⟩
          have sM := Same.new (o := .lst (c.map VI)) nM
          have hM : (upd Hd M (.lst (c.map VI))) M = _ := upd_same
          have sdM := Same.trans sc sM
          have dn1 := dn.kp sM
          generalize upd Hd M (.lst (c.map VI)) = H6 at hM sdM dn1 ⊢
          refine ⟨_, rfl, sa, M, n, k, ls, ms, c, rfl, hsp.same sdM, g, SqL.of hM, lcn, hkn, fun H7 b s7 hb => ?_⟩
          have s07 := Same.trans sdM s7
          have dn7 := dn1.kp s7
          refine ⟨b, rfl, ifB (fun hb1 => ?_) fun hb0 => ?_⟩
          · have hfree := hb.mp hb1
            obtain ⟨tn, tb, hT7⟩ := hT s07
            refine rd_for ⟨_, rfl, sa, _, _, _, rfl, rfl, hT7, at_ (j := 0) rfl rfl, (n : Int), rfl, by omega, by omega, ?_⟩
            refine for_it walk_range (fun o σ H' => ∃ (y6 y7 : Option V) (kvs : List (NestedKey × V)) (G : Lc), σ = [some (.ref sa), some (.ref R), some (.int 3), some (.ref D), some (.ref a), some (VI k), y6, y7] ∧ Same H H' ∧ DN P w H' D kvs ∧ TG kvs G ∧ LC (P3 n (ls ++ ms) S i c k o) G ∧ kvs.length ≤ i * 16 + k * 4 + o)
              ⟨_, _, kvs, G, rfl, s07, dn7, tg, lc23 lc, by omega⟩ (fun _ _ _ _ _ => trivial) (fun o v σ He Hf ho h hy => ?_) fun σ H8 h8 => ?_
            · obtain ⟨rfl, hv⟩ := hy
              obtain rfl : v = VI o := by rw [hv]; exact r0 o
              obtain ⟨y6, y7, kvs, G, rfl, se, dn, tg, lc, hl⟩ := h
              have hon : o < n := by omega
              -- key
              refine rd_set ⟨_, rfl, _, rfl, _, rfl, a, _, _, _, rfl, rfl, SqT.of (se _ _ hac), at_ rfl (cget (by omega)), _, _, rfl, rfl, by show 2 ≤ sizeLine; decide, fun t nt => ?_⟩
              have st := Same.new (o := .tup [VI k, V.int ((cn c k : Int) + 1)]) nt
              have ht : (upd Hf t (.tup [VI k, V.int ((cn c k : Int) + 1)])) t = some (.tup [.int ((k : Nat) : Int), .int (((cn c k + 1 : Nat)) : Int)]) := upd_same
              have s1 := Same.trans se st
              have dn1 := dn.kp st
              dsimp only
              generalize upd Hf t (.tup [VI k, V.int ((cn c k : Int) + 1)]) = H9 at ht s1 dn1 ⊢
              refine ⟨_, rfl, by show 2 ≤ sizeLine; decide, fun u nu => ?_⟩
              have su := Same.new (o := .tup [V.ref t, VI o]) nu
              have hu : KeyN (upd H9 u (.tup [V.ref t, VI o])) (nk k ((cn c k + 1 : Nat)) o) u := ⟨k, ((cn c k + 1 : Nat)), o, t, rfl, upd_same, su _ _ ht⟩
              have s2 := Same.trans s1 su
              have dn2 := dn1.kp su
              generalize upd H9 u (.tup [V.ref t, VI o]) = H10 at hu s2 dn2 ⊢
              -- least[key] = min(..)
              have hac2 : SqT K H10 a (c.map VI) := SqT.of (s2 _ _ hac)
              refine ⟨_, rfl, _, rfl, a, _, _, _, rfl, rfl, hac2, at_ rfl (cget (by omega)), _, rfl, D, _, rfl, dn2, _, rfl, _, rfl, _, rfl, a, _, _, _, rfl, rfl, hac2, at_ rfl (cget (i := o) (by omega)), u, kvs, _, rfl, dn2, hu, ((cn c o : Nat) : Int), (((G k (cn c k + 1) o).getD (cn c o) : Nat) : Int), ?_, ?_⟩
              · rw [tg, getDV]
              · rw [minV]
                refine ⟨_, rfl, _, rfl, D, u, kvs, _, rfl, rfl, dn2, hu, small (by omega), fun o' dn3 => ?_⟩
                refine ⟨_, _, _, _, rfl, fun b o'' e => ?_, dn3, tg.put k (cn c k + 1) o _, lc3 lc, ?_⟩
                · rw [upd_ne (ne_of_none e nD)]
                  exact s2 _ _ e
                · have := length_putK kvs (nk k ((cn c k + 1 : Nat)) o) (VI (minO (cn c o) (G k (cn c k + 1) o)))
                  omega
            · obtain ⟨y6, y7, kvs, G, rfl, se, dn, tg, lc, hl⟩ := h8
              rw [en] at lc hl
              exact ⟨_, _, _, kvs, G, rfl, se, dn, tg, lc32 h3' hfree lc, by omega⟩
          · exact ⟨_, _, _, kvs, G, rfl, s07, dn7, tg, lc2skip (fun z => by
              rw [hb.mpr z.2] at hb0
              cases hb0) lc, by omega⟩
        · exact ⟨_, _, _, kvs, G, rfl, sc, dn, tg, lc2skip (fun z => h3 (by have := z.1; omega)) lc, by omega⟩
      · obtain ⟨y5, y6, y7, kvs, G, rfl, sc, dn, tg, lc, hl⟩ := h5
        rw [en] at lc hl
        exact ⟨_, _, _, _, kvs, G, rfl, sc, dn, tg, lc21 hc lc, by omega⟩
    · obtain ⟨y4, y5, y6, y7, kvs, G, rfl, s4, dn, tg, lc, hl⟩ := h4
      rw [List.length_map, la] at lc
      exact ⟨_, rfl, q _ D kvs G s4 dn tg (lcEnd lc)⟩
end
end K24

/-! The law. -/
namespace K24
open PySem PySem.Spec PyProof.Rows L2
theorem r1 (i : Nat) : V.int (1 + (i : Int)) = VI (1 + i) := VI_add 1 i
theorem VO_scal (x : Option Nat) : scal (VO x) (VO x) = true := by
  cases x <;> rfl
theorem VB_scal (b : Bool) : scal (.bl b) (.bl b) = true := rfl
theorem VB_scal2 (a b : Bool) : scal (.bl a) (.bl b) = true := rfl
theorem getD_VO (x : Option Nat) : (x.map VI).getD .non = VO x := by
  cases x <;> rfl
section
variable {P : Program} {w : World} {K : PySem.W.Frag} {mg : Str → Option Value} {base : Heap}
theorem rd_if {tt : TT} {a b : TS} {D : Ends} {σ : L2.St} {H : Hp} (h : tt σ H fun c H1 => if c = true then a D σ H1 else b D σ H1) : tIfS tt a b D σ H := h
theorem rd_test {te : TE} {σ : L2.St} {H : Hp} {Q : Bool → Hp → Prop} (h : te σ H fun v H1 => ∃ b, v = .bl b ∧ Q b H1) : tTest te σ H Q := h
theorem rd_op {r : R2} {ta tb : TE} {σ : L2.St} {H : Hp} {Q : VK} (h : ta σ H fun x H1 => tb σ H1 fun y H2 => r x y H2 Q) : tOp r ta tb σ H Q := h
theorem surely_one {n a b i j : Nat} {ls : List Lk} {F : Tb} {H : Hp} {Q : VK} (dist : IsDist n ls F) (ha : a < n) (hb : b < n) (q : ∀ H' told, Same H H' → told = (if a = b ∧ i = j then false else behind (F a b) i j) → Q (.bl told) H') :
    (a = b ∧ i = j → Q (.bl false) H) ∧ (¬ (a = b ∧ i = j) → ∀ H' F', Same H H' → IsDist n ls F' → Q (.bl (behind (F' a b) i j)) H') :=
  ⟨fun h => q H false (fun _ _ e => e) (if_pos h).symm, fun h H' F' s d => q H' _ s (by rw [if_neg h, d.uniq dist ha hb])⟩
theorem sp_one {C p d1 d2 : Addr} {n a b i j : Nat} {ls : List Lk} {F : Tb} {H : Hp} {Q : VK} {E : XK} (hp : PrOk C H p n ls) (hn : n ≤ 1000) (hR : InR n ls) (hd1 : Dg H d1 a i) (hd2 : Dg H d2 b j) (ha : a < n) (hb : b < n) (hi : 1 ≤ i) (hj : 1 ≤ j)
    (dist : IsDist n ls F) (q : ∀ H' told, Same H H' → told = (if a = b ∧ i = j then false else behind (F a b) i j) → Q (.bl told) H') : sp_surely C [.ref p, .ref d1, .ref d2] H Q E :=
  let ⟨q1, q2⟩ := surely_one dist ha hb q
  ⟨p, d1, d2, n, a, b, i, j, ls, rfl, hp, hn, hR, hd1, hd2, ha, hb, hi, hj, q1, q2⟩
/-- due or (one, i) == (other, j) -/
theorem rd_or {σ : L2.St} {H : Hp} {Q : VK} {one oth i j : Nat} {due : Bool} (h14 : σ[14]? = some (some (.bl due))) (h9 : σ[9]? = some (some (VI one))) (h12 : σ[12]? = some (some (VI i))) (h10 : σ[10]? = some (some (VI oth))) (h13 : σ[13]? = some (some (VI j)))
    (q : ∀ H', Same H H' → Q (.bl (due || decide (one = oth ∧ i = j))) H') :
    tOrV (tVar 14) (tOp (rEqD K) (tTup (tCons (tVar 9) (tCons (tVar 12) tNil))) (tTup (tCons (tVar 10) (tCons (tVar 13) tNil)))) σ H Q := by
  refine ⟨_, h14, due, rfl, ?_⟩
  cases due with
  | true =>
    refine iteT ?_
    have := q H fun _ _ e => e
    rwa [Bool.true_or] at this
  | false =>
    refine iteF ⟨_, h9, _, h12, by show 2 ≤ sizeLine; decide, fun t nt => ⟨_, h10, _, h13, by show 2 ≤ sizeLine; decide, fun u nu => ?_⟩⟩
    have st := Same.new (o := .tup [VI one, VI i]) nt
    have su := Same.new (o := .tup [VI oth, VI j]) nu
    have d1 : Dg (upd (upd H t (.tup [VI one, VI i])) u (.tup [VI oth, VI j])) t one i := su _ _ upd_same
    have d2 : Dg (upd (upd H t (.tup [VI one, VI i])) u (.tup [VI oth, VI j])) u oth j := upd_same
    refine ⟨_, _, d1.dp, d2.dp, pair2_shaped one i, pair2_shaped oth j, ?_⟩
    rw [pair2_eqv]
    have := q _ (Same.trans st su)
    rwa [Bool.false_or] at this
/-- rounds is not None and j - i >= rounds -/
theorem rd_and {σ : L2.St} {H : Hp} {Q : VK} {i j : Nat} {R : Option Nat} (h11 : σ[11]? = some (some (VO R))) (h12 : σ[12]? = some (some (VI i))) (h13 : σ[13]? = some (some (VI j))) (q : Q (.bl (behind R i j)) H) :
    tAndV (tOp (fun x y H Q => y = .non ∧ Q (.bl (!decide (x = .non))) H) (tVar 11) (tC .non)) (tOp (rI0 fun i j => .bl (decide (j ≤ i))) (tOp (rI0 fun i j => .int (i - j)) (tVar 13) (tVar 12)) (tVar 11)) σ H Q := by
  refine ⟨_, h11, rfl, _, rfl, ?_⟩
  cases R with
  | none => exact iteNS rfl q
  | some d =>
    refine ifN (fun z => nomatch z) ?_
    refine ⟨_, h13, _, h12, _, _, rfl, rfl, _, h11, _, _, rfl, rfl, ?_⟩
    have e : decide ((d : Int) ≤ (j : Int) - (i : Int)) = behind (some d) i j := by
      show _ = decide (i + d ≤ j)
      by_cases h : i + d ≤ j
      · rw [decide_eq_true h, decide_eq_true (by omega)]
      · rw [decide_eq_false h, decide_eq_false (by omega)]
    show Q (.bl (decide ((d : Int) ≤ (j : Int) - (i : Int)))) H
    rw [e]
    exact q
def sp_law (K : PySem.W.Frag) : Sp := fun vs H Q _ => ∃ (a : Addr) (ns : List Int), vs = [.ref a] ∧ SqL K H a (ns.map V.int) ∧ ns.length ≤ 1000 ∧ ∀ H', Q (.bl true) H'
theorem ok_law (T : Txt K mg) : FnOk P w K mg base CX0 8 T.f_law T.d_law ["_law_script"] (sp_law K) := by
  refine T.F_law.ok sc_law (fun vs H Q E h => ?_) (fun cdv A outer s H vs Q E hr h => ?_)
  · obtain ⟨a, ns, rfl, _⟩ := h
    rfl
  · obtain ⟨a, ns, rfl, hS, hlen, q⟩ := h
    refine ⟨_, (pss_cons (ps_set (i := 1) sc_law.nd rfl (.inl rfl) (pe_call (ok_law_pool T) (hr.mono (by decide)) (by rfl) T.m_law_pool T.F_law_pool.kp (b_law_pool T) .nil pass0 (pa_cons (pv 0) pa_nil)))
      (pss_cons (ps_for PassesOwn.never rfl (pi_range1 (by rfl) T.n_range (pa_cons pe_int pa_nil)) (pg_name (i := 2) sc_law.nd rfl (.inl rfl)) (pss_cons (ps_set (i := 3) sc_law.nd rfl (.inl rfl) (pe_call (ok_law_spec T) (hr.mono (by decide)) (by rfl) T.m_law_spec T.F_law_spec.kp (b_law_spec T) .nil pass0 (pa_cons (pv 1) (pa_cons pe_int pa_nil))))
      (pss_cons (ps_set (i := 4) sc_law.nd rfl (.inl rfl) (pe_call (ok_law_program T) (hr.mono (by decide)) (by rfl) T.m_law_program T.F_law_program.kp (b_law_program T) .nil pass0 (pa_cons (pv 3) pa_nil)))
      (pss_cons (ps_set (i := 5) sc_law.nd rfl (.inl rfl) pe_int)
      (pss_cons (ps_set (i := 6) sc_law.nd rfl (.inl rfl) (pe_call (ok_law_flood T) (hr.mono (by decide)) (by rfl) T.m_law_flood T.F_law_flood.kp (b_law_flood T) .nil pass0 (pa_cons (pv 3) (pa_cons (pv 5) pa_nil))))
      (pss_cons (ps_set (i := 7) sc_law.nd rfl (.inl rfl) (pe_call (ok_law_least_counts T) (hr.mono (by decide)) (by rfl) T.m_law_least_counts T.F_law_least_counts.kp (b_law_least_counts T) .nil pass0 (pa_cons (pv 3) (pa_cons (pv 6) (pa_cons (pv 5) pa_nil)))))
      (pss_cons (ps_set (i := 8) sc_law.nd rfl (.inl rfl) (pe_call (ok_law_table T) (hr.mono (by decide)) (by rfl) T.m_law_table T.F_law_table.kp (b_law_table T) .nil pass0 (pa_cons (pv 3) pa_nil)))
      (pss_one (ps_for PassesOwn.never rfl (pi_range1 (by rfl) T.n_range (pa_cons (pe_ix ix_tup (pv 3) pe_int (fun _ _ => rfl)) pa_nil)) (pg_name (i := 9) sc_law.nd rfl (.inl rfl)) (pss_one (ps_for PassesOwn.never rfl (pi_range1 (by rfl) T.n_range (pa_cons (pe_ix ix_tup (pv 3) pe_int (fun _ _ => rfl)) pa_nil)) (pg_name (i := 10) sc_law.nd rfl (.inl rfl)) (pss_cons (ps_set (i := 11) sc_law.nd rfl (.inl rfl) (pe_call (ok_least_rounds T) (hr.mono (by decide)) (by rfl) T.m_least_rounds T.F_least_rounds.kp (b_least_rounds T) .nil pass0 (pa_cons (pv 4) (pa_cons (pv 9) (pa_cons (pv 10) pa_nil)))))
      (pss_cons (ps_for PassesOwn.never rfl (pi_range2 (by rfl) T.n_range (pa_cons pe_int (pa_cons (pe_op op_add (pv 5) pe_int) pa_nil))) (pg_name (i := 12) sc_law.nd rfl (.inl rfl)) (pss_one (ps_for PassesOwn.never rfl (pi_range2 (by rfl) T.n_range (pa_cons pe_int (pa_cons (pe_op op_add (pv 5) pe_int) pa_nil))) (pg_name (i := 13) sc_law.nd rfl (.inl rfl)) (pss_cons (ps_set (i := 14) sc_law.nd rfl (.inl rfl) (pe_cmpR op_ge (pe_dgetN (hu64 hr) (pv 7) (pe_tup (pa_cons (pe_tup (pa_cons (pv 10) (pa_cons (pv 13) pa_nil))) (pa_cons (pv 9) pa_nil))) (fun _ _ => rfl)) (pv 12) (nomark _)))
      (pss_cons (ps_set (i := 15) sc_law.nd rfl (.inl rfl) (pe_call (ok_surely T) (hr.mono (by decide)) (by rfl) T.m_surely T.F_surely.kp (b_surely T) .nil pass0 (pa_cons (pv 4) (pa_cons (pe_tup (pa_cons (pv 9) (pa_cons (pv 12) pa_nil))) (pa_cons (pe_tup (pa_cons (pv 10) (pa_cons (pv 13) pa_nil))) pa_nil)))))
      (pss_cons (ps_if (PW.pt (pw_or (pt_not (pt_val (pe_callB call_isi (by rfl) T.n_isinstance (by decide +kernel) (pa_cons (pv 15) (pa_cons (pe_bltn (v := .ty "bool") (by rfl) T.n_bool (by decide +kernel) rfl) pa_nil))))) (pw_or1 (pt_cmpR op_ne (pv 15) (pv 14) (nomark _))))) (pss_one (ps_ret pe_bl)) pss_nil)
      (pss_one (ps_if (pt_cmpR op_ne (pe_or (pv 14) (pe_one (pe_cmpR (op_eqD hr.units) (pe_tup (pa_cons (pv 9) (pa_cons (pv 12) pa_nil))) (pe_tup (pa_cons (pv 10) (pa_cons (pv 13) pa_nil))) (nomark _)))) (pe_and (pe_cmpR op_notN (pv 11) pe_non (nomark _)) (pe_one (pe_cmpR op_ge (pe_op op_sub (pv 13) (pv 12)) (pv 11) (nomark _)))) (nomark _)) (pss_one (ps_ret pe_bl)) pss_nil))))))))
      (pss_one (ps_if (pt_cmpR op_ne (pv 11) (pe_dget2 (hu_of hr) (pv 8) (pe_tup (pa_cons (pv 9) (pa_cons (pv 10) pa_nil))) pe_non ⟨rfl, rfl, rfl, rfl⟩) (nomark _)) (pss_one (ps_ret pe_bl)) pss_nil)))))))))))))))
      (pss_one (ps_ret pe_bl)))), ?_⟩
    refine rd_set ⟨_, rfl, a, ns, rfl, hS, hlen, fun H1 p c s1 pk np nc => ?_⟩
    refine rd_seq (rd_for ⟨2, rfl, by decide, by decide, ?_⟩)
    refine for_it walk_range (fun t σ H' => ∃ (y2 y3 y4 y5 y6 y7 y8 y9 y10 y11 y12 y13 y14 y15 : Option V), σ = [some (.ref a), some (.ref p), y2, y3, y4, y5, y6, y7, y8, y9, y10, y11, y12, y13, y14, y15] ∧ PoolOk H' p c)
      ⟨_, _, _, _, _, _, _, _, _, _, _, _, _, _, rfl, pk⟩ (fun _ _ _ _ _ => trivial) (fun t v σ Ha Hb ht h hy => ?_) fun σ H2 h2 => ?_
    · obtain ⟨rfl, hv⟩ := hy
      obtain rfl : v = VI t := by rw [hv]; exact r0 t
      obtain ⟨y2, y3, y4, y5, y6, y7, y8, y9, y10, y11, y12, y13, y14, y15, rfl, pk⟩ := h
      -- spec, program, bound, states, least, table
      refine rd_set ⟨_, rfl, p, c, rfl, pk, fun H3 sa n ls ms nx3 pk3 hsp g => ?_⟩
      refine rd_set ⟨_, rfl, sa, n, ls, ms, rfl, hsp, g, fun H4 x s4 hpr => ?_⟩
      have hsp4 := hsp.same s4
      have pk4 := pk3.same s4
      refine rd_set ?_
      dsimp only [tC]
      refine rd_set ⟨_, rfl, _, rfl, sa, n, ls, ms, rfl, hsp4, g, fun H5 F as S s5 hF hSt cl l256 => ?_⟩
      have hsp5 := hsp4.same s5
      refine rd_set ⟨_, rfl, _, rfl, _, rfl, sa, F, n, ls, ms, as, S, rfl, hsp5, g, hF, hSt, cl, l256, fun H6 d kvs G s6 dn tg lc => ?_⟩
      have hsp6 := hsp5.same s6
      refine rd_set ⟨_, rfl, sa, n, ls, ms, rfl, hsp6, g, fun H7 D kvd Tt s7 hD td dist => ?_⟩
      have s47 := Same.trans s5 (Same.trans s6 s7)
      have pr7 := hpr.same s47
      have pk7 := pk4.same s47
      have dn7 := dn.kp s7
      have hsp7 := hsp6.same s7
      have hR := g.inR
      have g4 := g.n4
      obtain ⟨pls, w1, w2⟩ := g.rise
      have rise : ∀ a b, (a, b, 0) ∈ ls ++ ms → cn pls a < cn pls b := fun a b m => by
        rcases List.mem_append.mp m with m | m
        · exact (w1 _ m).2.2.2 rfl
        · exact (w2 _ m).2.2.2 rfl
      have hT : ∀ {H' : Hp}, Same H7 H' → ∃ (tn tb : Addr), SqT K H' sa [VI n, .ref tn, .ref tb] := fun s => by
        obtain ⟨tn, tb, _, _, e, _⟩ := hsp7
        exact ⟨tn, tb, SqT.of (s _ _ e)⟩
      obtain ⟨tn, tb, hT7⟩ := hT (fun _ _ e => e)
      refine rd_for ⟨_, rfl, sa, _, _, _, rfl, rfl, hT7, at_ (j := 0) rfl rfl, (n : Int), rfl, by omega, by omega, ?_⟩
      refine for_it walk_range (fun one σ H' => ∃ (y9 y10 y11 y12 y13 y14 y15 : Option V), σ = [some (.ref a), some (.ref p), some (VI t), some (.ref sa), some (.ref x), some (.int 3), some (.ref F), some (.ref d), some (.ref D), y9, y10, y11, y12, y13, y14, y15] ∧ Same H7 H')
        ⟨_, _, _, _, _, _, _, rfl, fun _ _ e => e⟩ (fun _ _ _ _ _ => trivial) (fun one v σ Hc Hd hone h hy => ?_) fun σ H8 h8 => ?_
      · obtain ⟨rfl, hv⟩ := hy
        obtain rfl : v = VI one := by rw [hv]; exact r0 one
        obtain ⟨y9, y10, y11, y12, y13, y14, y15, rfl, sc⟩ := h
        have h1 : one < n := by omega
        obtain ⟨tn, tb, hTc⟩ := hT sc
        refine rd_for ⟨_, rfl, sa, _, _, _, rfl, rfl, hTc, at_ (j := 0) rfl rfl, (n : Int), rfl, by omega, by omega, ?_⟩
        refine for_it walk_range (fun oth σ H' => ∃ (y10 y11 y12 y13 y14 y15 : Option V), σ = [some (.ref a), some (.ref p), some (VI t), some (.ref sa), some (.ref x), some (.int 3), some (.ref F), some (.ref d), some (.ref D), some (VI one), y10, y11, y12, y13, y14, y15] ∧ Same H7 H')
          ⟨_, _, _, _, _, _, rfl, sc⟩ (fun _ _ _ _ _ => trivial) (fun oth v σ He Hf hoth h hy => ?_) fun σ H9 h9 => ?_
        · obtain ⟨rfl, hv⟩ := hy
          obtain rfl : v = VI oth := by rw [hv]; exact r0 oth
          obtain ⟨y10, y11, y12, y13, y14, y15, rfl, se⟩ := h
          have h2 : oth < n := by omega
          refine rd_set ⟨_, rfl, _, rfl, _, rfl, x, n, one, oth, ls ++ ms, rfl, pr7.same se, by omega, hR, h1, h2, fun H10 Fd s10 hFd => ?_⟩
          have se10 := Same.trans se s10
          have eR : Fd one oth = Tt one oth := hFd.uniq dist h1 h2
          rw [eR]
          refine rd_seq (rd_for ⟨_, rfl, _, _, rfl, rfl, 1, (3 : Int) + 1, rfl, ⟨by decide, by decide, by decide, by decide⟩, ?_⟩)
          refine for_it walk_range (fun i σ H' => ∃ (y12 y13 y14 y15 : Option V), σ = [some (.ref a), some (.ref p), some (VI t), some (.ref sa), some (.ref x), some (.int 3), some (.ref F), some (.ref d), some (.ref D), some (VI one), some (VI oth), some (VO (Tt one oth)), y12, y13, y14, y15] ∧ Same H7 H')
            ⟨_, _, _, _, rfl, se10⟩ (fun _ _ _ _ _ => trivial) (fun i v σ Hg Hh hi h hy => ?_) fun σ H11 h11 => ?_
          · obtain ⟨rfl, hv⟩ := hy
            obtain rfl : v = VI (1 + i) := by rw [hv]; exact r1 i
            obtain ⟨y12, y13, y14, y15, rfl, sg⟩ := h
            have hi3 : i < 3 := by simpa using hi
            refine rd_for ⟨_, rfl, _, _, rfl, rfl, 1, (3 : Int) + 1, rfl, ⟨by decide, by decide, by decide, by decide⟩, ?_⟩
            refine for_it walk_range (fun j σ H' => ∃ (y13 y14 y15 : Option V), σ = [some (.ref a), some (.ref p), some (VI t), some (.ref sa), some (.ref x), some (.int 3), some (.ref F), some (.ref d), some (.ref D), some (VI one), some (VI oth), some (VO (Tt one oth)), some (VI (1 + i)), y13, y14, y15] ∧ Same H7 H')
              ⟨_, _, _, rfl, sg⟩ (fun _ _ _ _ _ => trivial) (fun j v σ Hi Hj hj h hy => ?_) fun σ H12 h12 => ?_
            · obtain ⟨rfl, hv⟩ := hy
              obtain rfl : v = VI (1 + j) := by rw [hv]; exact r1 j
              obtain ⟨y13, y14, y15, rfl, si⟩ := h
              have hj3 : j < 3 := by simpa using hj
              generalize ei : 1 + i = I
              generalize ej : 1 + j = J
              have hI : 1 ≤ I := by omega
              have hJ : 1 ≤ J := by omega
              have hJ3 : J ≤ 3 := by omega
              obtain ⟨lv, hG, hline⟩ := line hR (cn pls) rise cl lc dist h1 h2 hI hJ hJ3
              have bline : decide (I ≤ lv) = if one = oth ∧ I = J then false else behind (Tt one oth) I J := by
                by_cases hs : one = oth ∧ I = J
                · rw [if_pos hs]
                  exact decide_eq_false fun z => (hline.mp z).1 hs
                · rw [if_neg hs]
                  cases eT : Tt one oth with
                  | none =>
                    refine decide_eq_false fun z => ?_
                    obtain ⟨_, dd, hd, _⟩ := hline.mp z
                    rw [eT] at hd
                    cases hd
                  | some dd =>
                    show _ = decide (I + dd ≤ J)
                    by_cases hle : I + dd ≤ J
                    · rw [decide_eq_true hle]
                      exact decide_eq_true (hline.mpr ⟨hs, dd, eT, hle⟩)
                    · rw [decide_eq_false hle]
                      refine decide_eq_false fun z => ?_
                      obtain ⟨_, d2, hd, hle2⟩ := hline.mp z
                      rw [eT] at hd
                      cases hd
                      exact hle hle2
              -- due
              refine rd_set ⟨_, rfl, _, rfl, _, rfl, by show 2 ≤ sizeLine; decide, fun t1 n1 => ?_⟩
              have st1 := Same.new (o := .tup [VI oth, VI J]) n1
              have ht1 : (upd Hj t1 (.tup [VI oth, VI J])) t1 = some (.tup [VI oth, VI J]) := upd_same
              have s12 := Same.trans si st1
              generalize upd Hj t1 (.tup [VI oth, VI J]) = H13 at ht1 s12 ⊢
              refine ⟨_, rfl, by show 2 ≤ sizeLine; decide, fun t2 n2 => ?_⟩
              have st2 := Same.new (o := .tup [V.ref t1, VI one]) n2
              have ht2 : KeyN (upd H13 t2 (.tup [V.ref t1, VI one])) (nk oth J one) t2 := ⟨oth, J, one, t1, rfl, upd_same, st2 _ _ ht1⟩
              have s13 := Same.trans s12 st2
              generalize upd H13 t2 (.tup [V.ref t1, VI one]) = H14 at ht2 s13 ⊢
              refine ⟨d, t2, kvs, _, VI lv, rfl, rfl, dn7.kp s13, ht2, by rw [tg, hG]; rfl, _, rfl, _, _, rfl, rfl, ?_⟩
              have e1 : decide (((I : Nat) : Int) ≤ ((lv : Nat) : Int)) = decide (I ≤ lv) := by
                by_cases h : I ≤ lv
                · rw [decide_eq_true h, decide_eq_true (by omega)]
                · rw [decide_eq_false h, decide_eq_false (by omega)]
              dsimp only
              rw [e1, bline]
              -- told
              refine rd_set ⟨_, rfl, _, rfl, _, rfl, by show 2 ≤ sizeLine; decide, fun d1 m1 => ?_⟩
              have sd1 := Same.new (o := .tup [VI one, VI I]) m1
              have hd1 : Dg (upd H14 d1 (.tup [VI one, VI I])) d1 one I := upd_same
              have s14 := Same.trans s13 sd1
              generalize upd H14 d1 (.tup [VI one, VI I]) = H15 at hd1 s14 ⊢
              refine ⟨_, rfl, _, rfl, by show 2 ≤ sizeLine; decide, fun d2 m2 => ?_⟩
              have sd2 := Same.new (o := .tup [VI oth, VI J]) m2
              have hd2 : Dg (upd H15 d2 (.tup [VI oth, VI J])) d2 oth J := upd_same
              have hd1' : Dg (upd H15 d2 (.tup [VI oth, VI J])) d1 one I := sd2 _ _ hd1
              have s15 := Same.trans s14 sd2
              generalize upd H15 d2 (.tup [VI oth, VI J]) = H16 at hd1' hd2 s15 ⊢
              dsimp only [tNil]
              refine sp_one (pr7.same s15) (by omega) hR hd1' hd2 h1 h2 hI hJ dist fun H17 told s17 et => ?_
              have s016 := Same.trans s15 s17
              rw [← et]
              refine rd_seq ⟨_, rfl, _, _, _, _, _, rfl, .ty "bool", .base (.bl told), kit_ty (by decide +kernel), true, rfl, iteF ⟨_, rfl, _, rfl, VB_scal told, _, rfl, ifN2 (fun z => absurd rfl z) fun _ => ?_⟩⟩
              dsimp only [tNext]
              refine rd_if (rd_test (rd_op (rd_or (K := K) rfl rfl rfl rfl rfl fun H18 s18 => rd_and (R := Tt one oth) rfl rfl rfl ⟨VB_scal2 _ _, _, rfl, ?_⟩)))
              have eB : (told || decide (one = oth ∧ I = J)) = behind (Tt one oth) I J := by
                by_cases hs : one = oth ∧ I = J
                · rw [decide_eq_true hs, Bool.or_true]
                  obtain ⟨rfl, rfl⟩ := hs
                  obtain ⟨e0, he0, hl0⟩ := dist.least one one 0 0 h1 (.nil one)
                  rw [he0]
                  symm
                  exact decide_eq_true (by omega)
                · rw [decide_eq_false hs, Bool.or_false, et, if_neg hs]
              rw [eB]
              exact ifN2 (fun z => absurd rfl z) fun _ => ⟨_, _, _, rfl, Same.trans s016 s18⟩
            · obtain ⟨y13, y14, y15, rfl, si⟩ := h12
              exact ⟨_, _, _, _, rfl, si⟩
          · obtain ⟨y12, y13, y14, y15, rfl, sg⟩ := h11
            -- rounds != table.get(..)
            dsimp only
            refine ⟨_, rfl, _, rfl, D, rfl, .inr ⟨_, .inl (sg _ _ hD)⟩, _, rfl, _, rfl, by show 2 ≤ sizeLine; decide, fun u nu => ?_⟩
            have su := Same.new (o := .tup [VI one, VI oth]) nu
            have hu : (upd H11 u (.tup [VI one, VI oth])) u = some (.tup ((k2 one oth).map kV)) := upd_same
            have s2 := Same.trans sg su
            generalize upd H11 u (.tup [VI one, VI oth]) = H12 at hu s2 ⊢
            refine ⟨_, DGet.t (k := k2 one oth) (s2 _ _ hD) hu, ?_⟩
            rw [td, getD_VO]
            exact ⟨VO_scal _, _, rfl, ifN2 (fun z => absurd rfl z) fun _ => ⟨_, _, _, _, _, _, rfl, s2⟩⟩
        · obtain ⟨y10, y11, y12, y13, y14, y15, rfl, se⟩ := h9
          exact ⟨_, _, _, _, _, _, _, rfl, se⟩
      · obtain ⟨y9, y10, y11, y12, y13, y14, y15, rfl, sc⟩ := h8
        exact ⟨_, _, _, _, _, _, _, _, _, _, _, _, _, _, rfl, pk7.same sc⟩
    · exact q H2
end
end K24

/-! What the top has written; the law's head. -/
namespace K24
open PySem PySem.Spec PyProof.Rows L2
theorem all_mk {l : PySem.W.OpenLaw} {w : World} {K : PySem.W.Frag} {h : Heap} {mg : Str → Option Value} {fa : Addr} (X : K.In h) (G : h.Ns mainGlobals mg) (hfa : mg "law" = some (.ref fa))
    {f_is_integer f_is_within f_is_from f_is_pair f_is_triple f_are_triples f_links_of f_idle_ring f_init f_keep f_is_step f_check_step f_is_doing f_check_doing f_rounds_table f_lowered f_least_rounds f_is_behind f_surely f_law_pool f_law_draw f_law_mixed f_law_some_links f_law_ring_links f_law_spec f_law_program f_law_links f_law_table f_law_free f_law_flood f_law_least_counts f_law C : Addr}
    {od_is_integer an_is_integer od_is_within an_is_within od_is_from an_is_from od_is_pair an_is_pair od_is_triple an_is_triple od_are_triples an_are_triples od_links_of an_links_of od_idle_ring an_idle_ring od_init an_init od_keep an_keep od_is_step an_is_step od_check_step an_check_step od_is_doing an_is_doing od_check_doing an_check_doing od_rounds_table an_rounds_table od_lowered an_lowered od_least_rounds an_least_rounds od_is_behind an_is_behind od_surely an_surely od_law_pool an_law_pool od_law_draw an_law_draw od_law_mixed an_law_mixed od_law_some_links an_law_some_links od_law_ring_links an_law_ring_links od_law_spec an_law_spec od_law_program an_law_program od_law_links an_law_links od_law_table an_law_table od_law_free an_law_free od_law_flood an_law_flood od_law_least_counts an_law_least_counts od_law an_law : Option Addr}
    {sl_is_integer sl_is_within sl_is_from sl_is_pair sl_is_triple sl_are_triples sl_links_of sl_idle_ring sl_init sl_keep sl_is_step sl_check_step sl_is_doing sl_check_doing sl_rounds_table sl_lowered sl_least_rounds sl_is_behind sl_surely sl_law_pool sl_law_draw sl_law_mixed sl_law_some_links sl_law_ring_links sl_law_spec sl_law_program sl_law_links sl_law_table sl_law_free sl_law_flood sl_law_least_counts sl_law : Array (Option Value)}
    {oc_is_integer kV_is_integer dc_is_integer pm_is_integer cd_is_integer ct_is_integer oc_is_within kV_is_within dc_is_within pm_is_within cd_is_within ct_is_within oc_is_from kV_is_from dc_is_from pm_is_from cd_is_from ct_is_from oc_is_pair kV_is_pair dc_is_pair pm_is_pair cd_is_pair ct_is_pair oc_is_triple kV_is_triple dc_is_triple pm_is_triple cd_is_triple ct_is_triple oc_are_triples kV_are_triples dc_are_triples pm_are_triples cd_are_triples ct_are_triples oc_links_of kV_links_of dc_links_of pm_links_of cd_links_of ct_links_of oc_idle_ring kV_idle_ring dc_idle_ring pm_idle_ring cd_idle_ring ct_idle_ring oc_init kV_init dc_init pm_init cd_init ct_init oc_keep kV_keep dc_keep pm_keep cd_keep ct_keep oc_is_step kV_is_step dc_is_step pm_is_step cd_is_step ct_is_step oc_check_step kV_check_step dc_check_step pm_check_step cd_check_step ct_check_step oc_is_doing kV_is_doing dc_is_doing pm_is_doing cd_is_doing ct_is_doing oc_check_doing kV_check_doing dc_check_doing pm_check_doing cd_check_doing ct_check_doing oc_rounds_table kV_rounds_table dc_rounds_table pm_rounds_table cd_rounds_table ct_rounds_table oc_lowered kV_lowered dc_lowered pm_lowered cd_lowered ct_lowered oc_least_rounds kV_least_rounds dc_least_rounds pm_least_rounds cd_least_rounds ct_least_rounds oc_is_behind kV_is_behind dc_is_behind pm_is_behind cd_is_behind ct_is_behind oc_surely kV_surely dc_surely pm_surely cd_surely ct_surely oc_law_pool kV_law_pool dc_law_pool pm_law_pool cd_law_pool ct_law_pool oc_law_draw kV_law_draw dc_law_draw pm_law_draw cd_law_draw ct_law_draw oc_law_mixed kV_law_mixed dc_law_mixed pm_law_mixed cd_law_mixed ct_law_mixed oc_law_some_links kV_law_some_links dc_law_some_links pm_law_some_links cd_law_some_links ct_law_some_links oc_law_ring_links kV_law_ring_links dc_law_ring_links pm_law_ring_links cd_law_ring_links ct_law_ring_links oc_law_spec kV_law_spec dc_law_spec pm_law_spec cd_law_spec ct_law_spec oc_law_program kV_law_program dc_law_program pm_law_program cd_law_program ct_law_program oc_law_links kV_law_links dc_law_links pm_law_links cd_law_links ct_law_links oc_law_table kV_law_table dc_law_table pm_law_table cd_law_table ct_law_table oc_law_free kV_law_free dc_law_free pm_law_free cd_law_free ct_law_free oc_law_flood kV_law_flood dc_law_flood pm_law_flood cd_law_flood ct_law_flood oc_law_least_counts kV_law_least_counts dc_law_least_counts pm_law_least_counts cd_law_least_counts ct_law_least_counts oc_law kV_law dc_law pm_law cd_law ct_law : Value}
    {t_MOST_STEPS t_MOST_LINKS t_MOST_ROUNDS : Tok}
    (aC : PySem.W.nsIn K mainGlobals "Program" = some (some (.ref C)))
    (a_is_integer : PySem.W.nsIn K mainGlobals "is_integer" = some (some (.ref f_is_integer)))
    (l_is_integer : K.lookup f_is_integer = some ⟨oc_is_integer, od_is_integer, .func (PySem.W.fnOf "is_integer" "is_integer" (defArgs s_is_integer) (defBody s_is_integer) (defScope s_is_integer) .none kV_is_integer dc_is_integer pm_is_integer an_is_integer cd_is_integer ct_is_integer), sl_is_integer⟩)
    (c_is_integer : PySem.W.codeIn K cd_is_integer "is_integer" = true) (k_is_integer : PySem.W.keepIn K (.ref f_is_integer) = true)
    (a_is_within : PySem.W.nsIn K mainGlobals "is_within" = some (some (.ref f_is_within)))
    (l_is_within : K.lookup f_is_within = some ⟨oc_is_within, od_is_within, .func (PySem.W.fnOf "is_within" "is_within" (defArgs s_is_within) (defBody s_is_within) (defScope s_is_within) .none kV_is_within dc_is_within pm_is_within an_is_within cd_is_within ct_is_within), sl_is_within⟩)
    (c_is_within : PySem.W.codeIn K cd_is_within "is_within" = true) (k_is_within : PySem.W.keepIn K (.ref f_is_within) = true)
    (a_is_from : PySem.W.nsIn K mainGlobals "is_from" = some (some (.ref f_is_from)))
    (l_is_from : K.lookup f_is_from = some ⟨oc_is_from, od_is_from, .func (PySem.W.fnOf "is_from" "is_from" (defArgs s_is_from) (defBody s_is_from) (defScope s_is_from) .none kV_is_from dc_is_from pm_is_from an_is_from cd_is_from ct_is_from), sl_is_from⟩)
    (c_is_from : PySem.W.codeIn K cd_is_from "is_from" = true) (k_is_from : PySem.W.keepIn K (.ref f_is_from) = true)
    (a_is_pair : PySem.W.nsIn K mainGlobals "is_pair" = some (some (.ref f_is_pair)))
    (l_is_pair : K.lookup f_is_pair = some ⟨oc_is_pair, od_is_pair, .func (PySem.W.fnOf "is_pair" "is_pair" (defArgs s_is_pair) (defBody s_is_pair) (defScope s_is_pair) .none kV_is_pair dc_is_pair pm_is_pair an_is_pair cd_is_pair ct_is_pair), sl_is_pair⟩)
    (c_is_pair : PySem.W.codeIn K cd_is_pair "is_pair" = true) (k_is_pair : PySem.W.keepIn K (.ref f_is_pair) = true)
    (a_is_triple : PySem.W.nsIn K mainGlobals "is_triple" = some (some (.ref f_is_triple)))
    (l_is_triple : K.lookup f_is_triple = some ⟨oc_is_triple, od_is_triple, .func (PySem.W.fnOf "is_triple" "is_triple" (defArgs s_is_triple) (defBody s_is_triple) (defScope s_is_triple) .none kV_is_triple dc_is_triple pm_is_triple an_is_triple cd_is_triple ct_is_triple), sl_is_triple⟩)
    (c_is_triple : PySem.W.codeIn K cd_is_triple "is_triple" = true) (k_is_triple : PySem.W.keepIn K (.ref f_is_triple) = true)
    (a_are_triples : PySem.W.nsIn K mainGlobals "are_triples" = some (some (.ref f_are_triples)))
    (l_are_triples : K.lookup f_are_triples = some ⟨oc_are_triples, od_are_triples, .func (PySem.W.fnOf "are_triples" "are_triples" (defArgs s_are_triples) (defBody s_are_triples) (defScope s_are_triples) .none kV_are_triples dc_are_triples pm_are_triples an_are_triples cd_are_triples ct_are_triples), sl_are_triples⟩)
    (c_are_triples : PySem.W.codeIn K cd_are_triples "are_triples" = true) (k_are_triples : PySem.W.keepIn K (.ref f_are_triples) = true)
    (a_links_of : PySem.W.nsIn K mainGlobals "links_of" = some (some (.ref f_links_of)))
    (l_links_of : K.lookup f_links_of = some ⟨oc_links_of, od_links_of, .func (PySem.W.fnOf "links_of" "links_of" (defArgs s_links_of) (defBody s_links_of) (defScope s_links_of) .none kV_links_of dc_links_of pm_links_of an_links_of cd_links_of ct_links_of), sl_links_of⟩)
    (c_links_of : PySem.W.codeIn K cd_links_of "links_of" = true) (k_links_of : PySem.W.keepIn K (.ref f_links_of) = true)
    (a_idle_ring : PySem.W.nsIn K mainGlobals "idle_ring" = some (some (.ref f_idle_ring)))
    (l_idle_ring : K.lookup f_idle_ring = some ⟨oc_idle_ring, od_idle_ring, .func (PySem.W.fnOf "idle_ring" "idle_ring" (defArgs s_idle_ring) (defBody s_idle_ring) (defScope s_idle_ring) .none kV_idle_ring dc_idle_ring pm_idle_ring an_idle_ring cd_idle_ring ct_idle_ring), sl_idle_ring⟩)
    (c_idle_ring : PySem.W.codeIn K cd_idle_ring "idle_ring" = true) (k_idle_ring : PySem.W.keepIn K (.ref f_idle_ring) = true)
    (a_init : PySem.W.findIn K (.ref C) "__init__" = some (some (.ref f_init))) (i_init : PySem.W.isFn K (.ref f_init) = true)
    (l_init : K.lookup f_init = some ⟨oc_init, od_init, .func (PySem.W.fnOf "__init__" "Program.__init__" (defArgs s_init) (defBody s_init) (defScope s_init) .none kV_init dc_init pm_init an_init cd_init ct_init), sl_init⟩)
    (c_init : PySem.W.codeIn K cd_init "Program.__init__" = true) (k_init : PySem.W.keepIn K (.ref f_init) = true)
    (a_keep : PySem.W.findIn K (.ref C) "keep" = some (some (.ref f_keep))) (i_keep : PySem.W.isFn K (.ref f_keep) = true)
    (l_keep : K.lookup f_keep = some ⟨oc_keep, od_keep, .func (PySem.W.fnOf "keep" "Program.keep" (defArgs s_keep) (defBody s_keep) (defScope s_keep) .none kV_keep dc_keep pm_keep an_keep cd_keep ct_keep), sl_keep⟩)
    (c_keep : PySem.W.codeIn K cd_keep "Program.keep" = true) (k_keep : PySem.W.keepIn K (.ref f_keep) = true)
    (a_is_step : PySem.W.nsIn K mainGlobals "is_step" = some (some (.ref f_is_step)))
    (l_is_step : K.lookup f_is_step = some ⟨oc_is_step, od_is_step, .func (PySem.W.fnOf "is_step" "is_step" (defArgs s_is_step) (defBody s_is_step) (defScope s_is_step) .none kV_is_step dc_is_step pm_is_step an_is_step cd_is_step ct_is_step), sl_is_step⟩)
    (c_is_step : PySem.W.codeIn K cd_is_step "is_step" = true) (k_is_step : PySem.W.keepIn K (.ref f_is_step) = true)
    (a_check_step : PySem.W.nsIn K mainGlobals "check_step" = some (some (.ref f_check_step)))
    (l_check_step : K.lookup f_check_step = some ⟨oc_check_step, od_check_step, .func (PySem.W.fnOf "check_step" "check_step" (defArgs s_check_step) (defBody s_check_step) (defScope s_check_step) .none kV_check_step dc_check_step pm_check_step an_check_step cd_check_step ct_check_step), sl_check_step⟩)
    (c_check_step : PySem.W.codeIn K cd_check_step "check_step" = true) (k_check_step : PySem.W.keepIn K (.ref f_check_step) = true)
    (a_is_doing : PySem.W.nsIn K mainGlobals "is_doing" = some (some (.ref f_is_doing)))
    (l_is_doing : K.lookup f_is_doing = some ⟨oc_is_doing, od_is_doing, .func (PySem.W.fnOf "is_doing" "is_doing" (defArgs s_is_doing) (defBody s_is_doing) (defScope s_is_doing) .none kV_is_doing dc_is_doing pm_is_doing an_is_doing cd_is_doing ct_is_doing), sl_is_doing⟩)
    (c_is_doing : PySem.W.codeIn K cd_is_doing "is_doing" = true) (k_is_doing : PySem.W.keepIn K (.ref f_is_doing) = true)
    (a_check_doing : PySem.W.nsIn K mainGlobals "check_doing" = some (some (.ref f_check_doing)))
    (l_check_doing : K.lookup f_check_doing = some ⟨oc_check_doing, od_check_doing, .func (PySem.W.fnOf "check_doing" "check_doing" (defArgs s_check_doing) (defBody s_check_doing) (defScope s_check_doing) .none kV_check_doing dc_check_doing pm_check_doing an_check_doing cd_check_doing ct_check_doing), sl_check_doing⟩)
    (c_check_doing : PySem.W.codeIn K cd_check_doing "check_doing" = true) (k_check_doing : PySem.W.keepIn K (.ref f_check_doing) = true)
    (a_rounds_table : PySem.W.nsIn K mainGlobals "rounds_table" = some (some (.ref f_rounds_table)))
    (l_rounds_table : K.lookup f_rounds_table = some ⟨oc_rounds_table, od_rounds_table, .func (PySem.W.fnOf "rounds_table" "rounds_table" (defArgs s_rounds_table) (defBody s_rounds_table) (defScope s_rounds_table) .none kV_rounds_table dc_rounds_table pm_rounds_table an_rounds_table cd_rounds_table ct_rounds_table), sl_rounds_table⟩)
    (c_rounds_table : PySem.W.codeIn K cd_rounds_table "rounds_table" = true) (k_rounds_table : PySem.W.keepIn K (.ref f_rounds_table) = true)
    (a_lowered : PySem.W.nsIn K mainGlobals "lowered" = some (some (.ref f_lowered)))
    (l_lowered : K.lookup f_lowered = some ⟨oc_lowered, od_lowered, .func (PySem.W.fnOf "lowered" "lowered" (defArgs s_lowered) (defBody s_lowered) (defScope s_lowered) .none kV_lowered dc_lowered pm_lowered an_lowered cd_lowered ct_lowered), sl_lowered⟩)
    (c_lowered : PySem.W.codeIn K cd_lowered "lowered" = true) (k_lowered : PySem.W.keepIn K (.ref f_lowered) = true)
    (a_least_rounds : PySem.W.nsIn K mainGlobals "least_rounds" = some (some (.ref f_least_rounds)))
    (l_least_rounds : K.lookup f_least_rounds = some ⟨oc_least_rounds, od_least_rounds, .func (PySem.W.fnOf "least_rounds" "least_rounds" (defArgs s_least_rounds) (defBody s_least_rounds) (defScope s_least_rounds) .none kV_least_rounds dc_least_rounds pm_least_rounds an_least_rounds cd_least_rounds ct_least_rounds), sl_least_rounds⟩)
    (c_least_rounds : PySem.W.codeIn K cd_least_rounds "least_rounds" = true) (k_least_rounds : PySem.W.keepIn K (.ref f_least_rounds) = true)
    (a_is_behind : PySem.W.nsIn K mainGlobals "is_behind" = some (some (.ref f_is_behind)))
    (l_is_behind : K.lookup f_is_behind = some ⟨oc_is_behind, od_is_behind, .func (PySem.W.fnOf "is_behind" "is_behind" (defArgs s_is_behind) (defBody s_is_behind) (defScope s_is_behind) .none kV_is_behind dc_is_behind pm_is_behind an_is_behind cd_is_behind ct_is_behind), sl_is_behind⟩)
    (c_is_behind : PySem.W.codeIn K cd_is_behind "is_behind" = true) (k_is_behind : PySem.W.keepIn K (.ref f_is_behind) = true)
    (a_surely : PySem.W.nsIn K mainGlobals "surely" = some (some (.ref f_surely)))
    (l_surely : K.lookup f_surely = some ⟨oc_surely, od_surely, .func (PySem.W.fnOf "surely" "surely" (defArgs s_surely) (defBody s_surely) (defScope s_surely) .none kV_surely dc_surely pm_surely an_surely cd_surely ct_surely), sl_surely⟩)
    (c_surely : PySem.W.codeIn K cd_surely "surely" = true) (k_surely : PySem.W.keepIn K (.ref f_surely) = true)
    (a_law_pool : PySem.W.nsIn K mainGlobals "_law_pool" = some (some (.ref f_law_pool)))
    (l_law_pool : K.lookup f_law_pool = some ⟨oc_law_pool, od_law_pool, .func (PySem.W.fnOf "_law_pool" "_law_pool" (defArgs s_law_pool) (defBody s_law_pool) (defScope s_law_pool) .none kV_law_pool dc_law_pool pm_law_pool an_law_pool cd_law_pool ct_law_pool), sl_law_pool⟩)
    (c_law_pool : PySem.W.codeIn K cd_law_pool "_law_pool" = true) (k_law_pool : PySem.W.keepIn K (.ref f_law_pool) = true)
    (a_law_draw : PySem.W.nsIn K mainGlobals "_law_draw" = some (some (.ref f_law_draw)))
    (l_law_draw : K.lookup f_law_draw = some ⟨oc_law_draw, od_law_draw, .func (PySem.W.fnOf "_law_draw" "_law_draw" (defArgs s_law_draw) (defBody s_law_draw) (defScope s_law_draw) .none kV_law_draw dc_law_draw pm_law_draw an_law_draw cd_law_draw ct_law_draw), sl_law_draw⟩)
    (c_law_draw : PySem.W.codeIn K cd_law_draw "_law_draw" = true) (k_law_draw : PySem.W.keepIn K (.ref f_law_draw) = true)
    (a_law_mixed : PySem.W.nsIn K mainGlobals "_law_mixed" = some (some (.ref f_law_mixed)))
    (l_law_mixed : K.lookup f_law_mixed = some ⟨oc_law_mixed, od_law_mixed, .func (PySem.W.fnOf "_law_mixed" "_law_mixed" (defArgs s_law_mixed) (defBody s_law_mixed) (defScope s_law_mixed) .none kV_law_mixed dc_law_mixed pm_law_mixed an_law_mixed cd_law_mixed ct_law_mixed), sl_law_mixed⟩)
    (c_law_mixed : PySem.W.codeIn K cd_law_mixed "_law_mixed" = true) (k_law_mixed : PySem.W.keepIn K (.ref f_law_mixed) = true)
    (a_law_some_links : PySem.W.nsIn K mainGlobals "_law_some_links" = some (some (.ref f_law_some_links)))
    (l_law_some_links : K.lookup f_law_some_links = some ⟨oc_law_some_links, od_law_some_links, .func (PySem.W.fnOf "_law_some_links" "_law_some_links" (defArgs s_law_some_links) (defBody s_law_some_links) (defScope s_law_some_links) .none kV_law_some_links dc_law_some_links pm_law_some_links an_law_some_links cd_law_some_links ct_law_some_links), sl_law_some_links⟩)
    (c_law_some_links : PySem.W.codeIn K cd_law_some_links "_law_some_links" = true) (k_law_some_links : PySem.W.keepIn K (.ref f_law_some_links) = true)
    (a_law_ring_links : PySem.W.nsIn K mainGlobals "_law_ring_links" = some (some (.ref f_law_ring_links)))
    (l_law_ring_links : K.lookup f_law_ring_links = some ⟨oc_law_ring_links, od_law_ring_links, .func (PySem.W.fnOf "_law_ring_links" "_law_ring_links" (defArgs s_law_ring_links) (defBody s_law_ring_links) (defScope s_law_ring_links) .none kV_law_ring_links dc_law_ring_links pm_law_ring_links an_law_ring_links cd_law_ring_links ct_law_ring_links), sl_law_ring_links⟩)
    (c_law_ring_links : PySem.W.codeIn K cd_law_ring_links "_law_ring_links" = true) (k_law_ring_links : PySem.W.keepIn K (.ref f_law_ring_links) = true)
    (a_law_spec : PySem.W.nsIn K mainGlobals "_law_spec" = some (some (.ref f_law_spec)))
    (l_law_spec : K.lookup f_law_spec = some ⟨oc_law_spec, od_law_spec, .func (PySem.W.fnOf "_law_spec" "_law_spec" (defArgs s_law_spec) (defBody s_law_spec) (defScope s_law_spec) .none kV_law_spec dc_law_spec pm_law_spec an_law_spec cd_law_spec ct_law_spec), sl_law_spec⟩)
    (c_law_spec : PySem.W.codeIn K cd_law_spec "_law_spec" = true) (k_law_spec : PySem.W.keepIn K (.ref f_law_spec) = true)
    (a_law_program : PySem.W.nsIn K mainGlobals "_law_program" = some (some (.ref f_law_program)))
    (l_law_program : K.lookup f_law_program = some ⟨oc_law_program, od_law_program, .func (PySem.W.fnOf "_law_program" "_law_program" (defArgs s_law_program) (defBody s_law_program) (defScope s_law_program) .none kV_law_program dc_law_program pm_law_program an_law_program cd_law_program ct_law_program), sl_law_program⟩)
    (c_law_program : PySem.W.codeIn K cd_law_program "_law_program" = true) (k_law_program : PySem.W.keepIn K (.ref f_law_program) = true)
    (a_law_links : PySem.W.nsIn K mainGlobals "_law_links" = some (some (.ref f_law_links)))
    (l_law_links : K.lookup f_law_links = some ⟨oc_law_links, od_law_links, .func (PySem.W.fnOf "_law_links" "_law_links" (defArgs s_law_links) (defBody s_law_links) (defScope s_law_links) .none kV_law_links dc_law_links pm_law_links an_law_links cd_law_links ct_law_links), sl_law_links⟩)
    (c_law_links : PySem.W.codeIn K cd_law_links "_law_links" = true) (k_law_links : PySem.W.keepIn K (.ref f_law_links) = true)
    (a_law_table : PySem.W.nsIn K mainGlobals "_law_table" = some (some (.ref f_law_table)))
    (l_law_table : K.lookup f_law_table = some ⟨oc_law_table, od_law_table, .func (PySem.W.fnOf "_law_table" "_law_table" (defArgs s_law_table) (defBody s_law_table) (defScope s_law_table) .none kV_law_table dc_law_table pm_law_table an_law_table cd_law_table ct_law_table), sl_law_table⟩)
    (c_law_table : PySem.W.codeIn K cd_law_table "_law_table" = true) (k_law_table : PySem.W.keepIn K (.ref f_law_table) = true)
    (a_law_free : PySem.W.nsIn K mainGlobals "_law_free" = some (some (.ref f_law_free)))
    (l_law_free : K.lookup f_law_free = some ⟨oc_law_free, od_law_free, .func (PySem.W.fnOf "_law_free" "_law_free" (defArgs s_law_free) (defBody s_law_free) (defScope s_law_free) .none kV_law_free dc_law_free pm_law_free an_law_free cd_law_free ct_law_free), sl_law_free⟩)
    (c_law_free : PySem.W.codeIn K cd_law_free "_law_free" = true) (k_law_free : PySem.W.keepIn K (.ref f_law_free) = true)
    (a_law_flood : PySem.W.nsIn K mainGlobals "_law_flood" = some (some (.ref f_law_flood)))
    (l_law_flood : K.lookup f_law_flood = some ⟨oc_law_flood, od_law_flood, .func (PySem.W.fnOf "_law_flood" "_law_flood" (defArgs s_law_flood) (defBody s_law_flood) (defScope s_law_flood) .none kV_law_flood dc_law_flood pm_law_flood an_law_flood cd_law_flood ct_law_flood), sl_law_flood⟩)
    (c_law_flood : PySem.W.codeIn K cd_law_flood "_law_flood" = true) (k_law_flood : PySem.W.keepIn K (.ref f_law_flood) = true)
    (a_law_least_counts : PySem.W.nsIn K mainGlobals "_law_least_counts" = some (some (.ref f_law_least_counts)))
    (l_law_least_counts : K.lookup f_law_least_counts = some ⟨oc_law_least_counts, od_law_least_counts, .func (PySem.W.fnOf "_law_least_counts" "_law_least_counts" (defArgs s_law_least_counts) (defBody s_law_least_counts) (defScope s_law_least_counts) .none kV_law_least_counts dc_law_least_counts pm_law_least_counts an_law_least_counts cd_law_least_counts ct_law_least_counts), sl_law_least_counts⟩)
    (c_law_least_counts : PySem.W.codeIn K cd_law_least_counts "_law_least_counts" = true) (k_law_least_counts : PySem.W.keepIn K (.ref f_law_least_counts) = true)
    (a_law : PySem.W.nsIn K mainGlobals "law" = some (some (.ref f_law)))
    (l_law : K.lookup f_law = some ⟨oc_law, od_law, .func (PySem.W.fnOf "law" "law" (defArgs s_law) (defBody s_law) (defScope s_law) .none kV_law dc_law pm_law an_law cd_law ct_law), sl_law⟩)
    (c_law : PySem.W.codeIn K cd_law "law" = true) (k_law : PySem.W.keepIn K (.ref f_law) = true)
    (pg : PySem.W.plainGet K C Str.empty = true) (hd : PySem.W.hasDictIn K C = true) (po : PySem.W.plainOver K C = true) (sa : PySem.W.findIn K (.ref C) "__setattr__" = some (some (.builtin "object.__setattr__"))) (mk : PySem.W.makesIn K C = true) (kC : PySem.W.keepIn K (.ref C) = true)
    (n_steps : PySem.W.findIn K (.ref C) "steps" = some none)
    (n_needs : PySem.W.findIn K (.ref C) "needs" = some none)
    (n_befores : PySem.W.findIn K (.ref C) "befores" = some none)
    (n_kept_links : PySem.W.findIn K (.ref C) "kept_links" = some none)
    (n_kept_readers : PySem.W.findIn K (.ref C) "kept_readers" = some none)
    (n_kept_makers : PySem.W.findIn K (.ref C) "kept_makers" = some none)
    (g_MOST_STEPS : PySem.W.nsIn K mainGlobals "MOST_STEPS" = some (some (.int 12 t_MOST_STEPS)))
    (g_MOST_LINKS : PySem.W.nsIn K mainGlobals "MOST_LINKS" = some (some (.int 40 t_MOST_LINKS)))
    (g_MOST_ROUNDS : PySem.W.nsIn K mainGlobals "MOST_ROUNDS" = some (some (.int 6 t_MOST_ROUNDS)))
    (z_len : PySem.W.nsIn K mainGlobals "len" = some none)
    (z_sum : PySem.W.nsIn K mainGlobals "sum" = some none)
    (z_all : PySem.W.nsIn K mainGlobals "all" = some none)
    (z_abs : PySem.W.nsIn K mainGlobals "abs" = some none)
    (z_max : PySem.W.nsIn K mainGlobals "max" = some none)
    (z_min : PySem.W.nsIn K mainGlobals "min" = some none)
    (z_sorted : PySem.W.nsIn K mainGlobals "sorted" = some none)
    (z_isinstance : PySem.W.nsIn K mainGlobals "isinstance" = some none)
    (z_int : PySem.W.nsIn K mainGlobals "int" = some none)
    (z_bool : PySem.W.nsIn K mainGlobals "bool" = some none)
    (z_list : PySem.W.nsIn K mainGlobals "list" = some none)
    (z_tuple : PySem.W.nsIn K mainGlobals "tuple" = some none)
    (z_range : PySem.W.nsIn K mainGlobals "range" = some none)
    (z_enumerate : PySem.W.nsIn K mainGlobals "enumerate" = some none)
    : ∃ fd : FuncData, (∀ (s : Shared) (v : Value), BindsTo s fd ⟨[v], []⟩ [("_law_script", v)]) ∧ ∀ base : Heap, K.In base → base.Ns mainGlobals mg → FnOk l.prog w K mg base CX0 8 fa fd ["_law_script"] (sp_law K) := by
  have e := hfa.symm.trans (PySem.W.mg_of X G a_law)
  cases e
  let T : Txt K mg :=
  {
    f_is_integer := f_is_integer, d_is_integer := _, F_is_integer := fun_mk (st := s_is_integer) l_is_integer c_is_integer k_is_integer,
    m_is_integer := PySem.W.mg_of X G a_is_integer,
    f_is_within := f_is_within, d_is_within := _, F_is_within := fun_mk (st := s_is_within) l_is_within c_is_within k_is_within,
    m_is_within := PySem.W.mg_of X G a_is_within,
    f_is_from := f_is_from, d_is_from := _, F_is_from := fun_mk (st := s_is_from) l_is_from c_is_from k_is_from,
    m_is_from := PySem.W.mg_of X G a_is_from,
    f_is_pair := f_is_pair, d_is_pair := _, F_is_pair := fun_mk (st := s_is_pair) l_is_pair c_is_pair k_is_pair,
    m_is_pair := PySem.W.mg_of X G a_is_pair,
    f_is_triple := f_is_triple, d_is_triple := _, F_is_triple := fun_mk (st := s_is_triple) l_is_triple c_is_triple k_is_triple,
    m_is_triple := PySem.W.mg_of X G a_is_triple,
    f_are_triples := f_are_triples, d_are_triples := _, F_are_triples := fun_mk (st := s_are_triples) l_are_triples c_are_triples k_are_triples,
    m_are_triples := PySem.W.mg_of X G a_are_triples,
    f_links_of := f_links_of, d_links_of := _, F_links_of := fun_mk (st := s_links_of) l_links_of c_links_of k_links_of,
    m_links_of := PySem.W.mg_of X G a_links_of,
    f_idle_ring := f_idle_ring, d_idle_ring := _, F_idle_ring := fun_mk (st := s_idle_ring) l_idle_ring c_idle_ring k_idle_ring,
    m_idle_ring := PySem.W.mg_of X G a_idle_ring,
    f_init := f_init, d_init := _, F_init := fun_mk (st := s_init) l_init c_init k_init,
    f_keep := f_keep, d_keep := _, F_keep := fun_mk (st := s_keep) l_keep c_keep k_keep,
    f_is_step := f_is_step, d_is_step := _, F_is_step := fun_mk (st := s_is_step) l_is_step c_is_step k_is_step,
    m_is_step := PySem.W.mg_of X G a_is_step,
    f_check_step := f_check_step, d_check_step := _, F_check_step := fun_mk (st := s_check_step) l_check_step c_check_step k_check_step,
    m_check_step := PySem.W.mg_of X G a_check_step,
    f_is_doing := f_is_doing, d_is_doing := _, F_is_doing := fun_mk (st := s_is_doing) l_is_doing c_is_doing k_is_doing,
    m_is_doing := PySem.W.mg_of X G a_is_doing,
    f_check_doing := f_check_doing, d_check_doing := _, F_check_doing := fun_mk (st := s_check_doing) l_check_doing c_check_doing k_check_doing,
    m_check_doing := PySem.W.mg_of X G a_check_doing,
    f_rounds_table := f_rounds_table, d_rounds_table := _, F_rounds_table := fun_mk (st := s_rounds_table) l_rounds_table c_rounds_table k_rounds_table,
    m_rounds_table := PySem.W.mg_of X G a_rounds_table,
    f_lowered := f_lowered, d_lowered := _, F_lowered := fun_mk (st := s_lowered) l_lowered c_lowered k_lowered,
    m_lowered := PySem.W.mg_of X G a_lowered,
    f_least_rounds := f_least_rounds, d_least_rounds := _, F_least_rounds := fun_mk (st := s_least_rounds) l_least_rounds c_least_rounds k_least_rounds,
    m_least_rounds := PySem.W.mg_of X G a_least_rounds,
    f_is_behind := f_is_behind, d_is_behind := _, F_is_behind := fun_mk (st := s_is_behind) l_is_behind c_is_behind k_is_behind,
    m_is_behind := PySem.W.mg_of X G a_is_behind,
    f_surely := f_surely, d_surely := _, F_surely := fun_mk (st := s_surely) l_surely c_surely k_surely,
    m_surely := PySem.W.mg_of X G a_surely,
    f_law_pool := f_law_pool, d_law_pool := _, F_law_pool := fun_mk (st := s_law_pool) l_law_pool c_law_pool k_law_pool,
    m_law_pool := PySem.W.mg_of X G a_law_pool,
    f_law_draw := f_law_draw, d_law_draw := _, F_law_draw := fun_mk (st := s_law_draw) l_law_draw c_law_draw k_law_draw,
    m_law_draw := PySem.W.mg_of X G a_law_draw,
    f_law_mixed := f_law_mixed, d_law_mixed := _, F_law_mixed := fun_mk (st := s_law_mixed) l_law_mixed c_law_mixed k_law_mixed,
    m_law_mixed := PySem.W.mg_of X G a_law_mixed,
    f_law_some_links := f_law_some_links, d_law_some_links := _, F_law_some_links := fun_mk (st := s_law_some_links) l_law_some_links c_law_some_links k_law_some_links,
    m_law_some_links := PySem.W.mg_of X G a_law_some_links,
    f_law_ring_links := f_law_ring_links, d_law_ring_links := _, F_law_ring_links := fun_mk (st := s_law_ring_links) l_law_ring_links c_law_ring_links k_law_ring_links,
    m_law_ring_links := PySem.W.mg_of X G a_law_ring_links,
    f_law_spec := f_law_spec, d_law_spec := _, F_law_spec := fun_mk (st := s_law_spec) l_law_spec c_law_spec k_law_spec,
    m_law_spec := PySem.W.mg_of X G a_law_spec,
    f_law_program := f_law_program, d_law_program := _, F_law_program := fun_mk (st := s_law_program) l_law_program c_law_program k_law_program,
    m_law_program := PySem.W.mg_of X G a_law_program,
    f_law_links := f_law_links, d_law_links := _, F_law_links := fun_mk (st := s_law_links) l_law_links c_law_links k_law_links,
    m_law_links := PySem.W.mg_of X G a_law_links,
    f_law_table := f_law_table, d_law_table := _, F_law_table := fun_mk (st := s_law_table) l_law_table c_law_table k_law_table,
    m_law_table := PySem.W.mg_of X G a_law_table,
    f_law_free := f_law_free, d_law_free := _, F_law_free := fun_mk (st := s_law_free) l_law_free c_law_free k_law_free,
    m_law_free := PySem.W.mg_of X G a_law_free,
    f_law_flood := f_law_flood, d_law_flood := _, F_law_flood := fun_mk (st := s_law_flood) l_law_flood c_law_flood k_law_flood,
    m_law_flood := PySem.W.mg_of X G a_law_flood,
    f_law_least_counts := f_law_least_counts, d_law_least_counts := _, F_law_least_counts := fun_mk (st := s_law_least_counts) l_law_least_counts c_law_least_counts k_law_least_counts,
    m_law_least_counts := PySem.W.mg_of X G a_law_least_counts,
    f_law := fa, d_law := _, F_law := fun_mk (st := s_law) l_law c_law k_law,
    m_law := PySem.W.mg_of X G a_law,
    C := C, cl := ⟨pg, hd, po, sa⟩, m_Program := PySem.W.mg_of X G aC, mk_Program := ⟨mk, a_init, i_init, kC⟩, me_keep := ⟨a_keep, i_keep, k_keep⟩,
    a_steps := n_steps,
    a_needs := n_needs,
    a_befores := n_befores,
    a_kept_links := n_kept_links,
    a_kept_readers := n_kept_readers,
    a_kept_makers := n_kept_makers,
    t_MOST_STEPS := t_MOST_STEPS, m_MOST_STEPS := PySem.W.mg_of X G g_MOST_STEPS,
    t_MOST_LINKS := t_MOST_LINKS, m_MOST_LINKS := PySem.W.mg_of X G g_MOST_LINKS,
    t_MOST_ROUNDS := t_MOST_ROUNDS, m_MOST_ROUNDS := PySem.W.mg_of X G g_MOST_ROUNDS,
    n_len := PySem.W.mg_none_of X G z_len, n_sum := PySem.W.mg_none_of X G z_sum, n_all := PySem.W.mg_none_of X G z_all, n_abs := PySem.W.mg_none_of X G z_abs, n_max := PySem.W.mg_none_of X G z_max, n_min := PySem.W.mg_none_of X G z_min, n_sorted := PySem.W.mg_none_of X G z_sorted, n_isinstance := PySem.W.mg_none_of X G z_isinstance, n_int := PySem.W.mg_none_of X G z_int, n_bool := PySem.W.mg_none_of X G z_bool, n_list := PySem.W.mg_none_of X G z_list, n_tuple := PySem.W.mg_none_of X G z_tuple, n_range := PySem.W.mg_none_of X G z_range, n_enumerate := PySem.W.mg_none_of X G z_enumerate }
  exact ⟨PySem.W.fnOf "law" "law" (defArgs s_law) (defBody s_law) (defScope s_law) .none kV_law dc_law pm_law an_law cd_law ct_law, fun s v => .of_eq rfl, fun base _ _ => ok_law T⟩
theorem walk {l : PySem.W.OpenLaw} {q : Program} {loose : List Str} {XP : (Str → Option Value) → Heap → Prop} {YP : World → Heap → Prop} {d : DefRec} {K : Params → PySem.W.Frag} (hn : l.most = some 63) (hdf : d.params.defaults = [])
    (hY : ∀ (w : World) (h : Heap), YP w h → (K w.params).In h)
    (F : ∀ (w : World) (mg : Str → Option Value) (fa : Addr) (h : Heap), (K w.params).In h → h.Ns mainGlobals mg → mg d.name = some (.ref fa) →
      ∃ fd : FuncData, (∀ (s : Shared) (u : Value), BindsTo s fd ⟨[u], []⟩ [("_law_script", u)]) ∧ ∀ base : Heap, (K w.params).In base → base.Ns mainGlobals mg → FnOk l.prog w (K w.params) mg base CX0 8 fa fd ["_law_script"] (sp_law (K w.params))) :
    PySem.W.WalkO q loose XP YP l.row.toRowW d [] (fun f vs => PySem.call f vs) :=
  L2.walk_of (n := 63) (k := 8) (x := "_law_script") (CX := fun _ => CX0) (sp := fun w => sp_law (K w.params)) hn (by decide) hdf ⟨rfl, by decide, by decide⟩ hY F (fun _ _ a ns hl _ hS => ⟨a, ns, rfl, hS, Nat.le_trans hl (by decide), fun _ => rfl⟩) fun _ _ _ _ _ z => z
end K24

open PySem PySem.W PyProof.Rows
set_option maxRecDepth 100000 in
set_option maxHeartbeats 0 in
theorem PySem.Challenge.cw_aheadcells_k24_whole_surely_by_all_small_holds : PySem.Challenge.rw_aheadcells_k24_whole_surely_by_all_small.Holds := by
  w_on; o_law; k_head; (case hw => w_witness2)
  k_fill
  refine K24.walk (l := PySem.Challenge.rw_aheadcells_k24_whole_surely_by_all_small) rfl rfl (fun w h Y => PySem.W.kIn_of Y) ?F
  case F =>
    intro w mg fa h KX G hmg
    refine' K24.all_mk KX G hmg ?aC ?a_is_integer ?l_is_integer ?c_is_integer ?k_is_integer ?a_is_within ?l_is_within ?c_is_within ?k_is_within ?a_is_from ?l_is_from ?c_is_from ?k_is_from ?a_is_pair ?l_is_pair ?c_is_pair ?k_is_pair ?a_is_triple ?l_is_triple ?c_is_triple ?k_is_triple ?a_are_triples ?l_are_triples ?c_are_triples ?k_are_triples ?a_links_of ?l_links_of ?c_links_of ?k_links_of ?a_idle_ring ?l_idle_ring ?c_idle_ring ?k_idle_ring ?a_init ?i_init ?l_init ?c_init ?k_init ?a_keep ?i_keep ?l_keep ?c_keep ?k_keep ?a_is_step ?l_is_step ?c_is_step ?k_is_step ?a_check_step ?l_check_step ?c_check_step ?k_check_step ?a_is_doing ?l_is_doing ?c_is_doing ?k_is_doing ?a_check_doing ?l_check_doing ?c_check_doing ?k_check_doing ?a_rounds_table ?l_rounds_table ?c_rounds_table ?k_rounds_table ?a_lowered ?l_lowered ?c_lowered ?k_lowered ?a_least_rounds ?l_least_rounds ?c_least_rounds ?k_least_rounds ?a_is_behind ?l_is_behind ?c_is_behind ?k_is_behind ?a_surely ?l_surely ?c_surely ?k_surely ?a_law_pool ?l_law_pool ?c_law_pool ?k_law_pool ?a_law_draw ?l_law_draw ?c_law_draw ?k_law_draw ?a_law_mixed ?l_law_mixed ?c_law_mixed ?k_law_mixed ?a_law_some_links ?l_law_some_links ?c_law_some_links ?k_law_some_links ?a_law_ring_links ?l_law_ring_links ?c_law_ring_links ?k_law_ring_links ?a_law_spec ?l_law_spec ?c_law_spec ?k_law_spec ?a_law_program ?l_law_program ?c_law_program ?k_law_program ?a_law_links ?l_law_links ?c_law_links ?k_law_links ?a_law_table ?l_law_table ?c_law_table ?k_law_table ?a_law_free ?l_law_free ?c_law_free ?k_law_free ?a_law_flood ?l_law_flood ?c_law_flood ?k_law_flood ?a_law_least_counts ?l_law_least_counts ?c_law_least_counts ?k_law_least_counts ?a_law ?l_law ?c_law ?k_law ?pg ?hd ?po ?sa ?mk ?kC ?n_steps ?n_needs ?n_befores ?n_kept_links ?n_kept_readers ?n_kept_makers ?g_MOST_STEPS ?g_MOST_LINKS ?g_MOST_ROUNDS ?z_len ?z_sum ?z_all ?z_abs ?z_max ?z_min ?z_sorted ?z_isinstance ?z_int ?z_bool ?z_list ?z_tuple ?z_range ?z_enumerate
    (case aC => k_is)
    (case a_is_integer => k_is)
    (case l_is_integer => k_is)
    (case c_is_integer => k_is)
    (case k_is_integer => k_is)
    (case a_is_within => k_is)
    (case l_is_within => k_is)
    (case c_is_within => k_is)
    (case k_is_within => k_is)
    (case a_is_from => k_is)
    (case l_is_from => k_is)
    (case c_is_from => k_is)
    (case k_is_from => k_is)
    (case a_is_pair => k_is)
    (case l_is_pair => k_is)
    (case c_is_pair => k_is)
    (case k_is_pair => k_is)
    (case a_is_triple => k_is)
    (case l_is_triple => k_is)
    (case c_is_triple => k_is)
    (case k_is_triple => k_is)
    (case a_are_triples => k_is)
    (case l_are_triples => k_is)
    (case c_are_triples => k_is)
    (case k_are_triples => k_is)
    (case a_links_of => k_is)
    (case l_links_of => k_is)
    (case c_links_of => k_is)
    (case k_links_of => k_is)
    (case a_idle_ring => k_is)
    (case l_idle_ring => k_is)
    (case c_idle_ring => k_is)
    (case k_idle_ring => k_is)
    (case a_init => k_is)
    (case i_init => k_is)
    (case l_init => k_is)
    (case c_init => k_is)
    (case k_init => k_is)
    (case a_keep => k_is)
    (case i_keep => k_is)
    (case l_keep => k_is)
    (case c_keep => k_is)
    (case k_keep => k_is)
    (case a_is_step => k_is)
    (case l_is_step => k_is)
    (case c_is_step => k_is)
    (case k_is_step => k_is)
    (case a_check_step => k_is)
    (case l_check_step => k_is)
    (case c_check_step => k_is)
    (case k_check_step => k_is)
    (case a_is_doing => k_is)
    (case l_is_doing => k_is)
    (case c_is_doing => k_is)
    (case k_is_doing => k_is)
    (case a_check_doing => k_is)
    (case l_check_doing => k_is)
    (case c_check_doing => k_is)
    (case k_check_doing => k_is)
    (case a_rounds_table => k_is)
    (case l_rounds_table => k_is)
    (case c_rounds_table => k_is)
    (case k_rounds_table => k_is)
    (case a_lowered => k_is)
    (case l_lowered => k_is)
    (case c_lowered => k_is)
    (case k_lowered => k_is)
    (case a_least_rounds => k_is)
    (case l_least_rounds => k_is)
    (case c_least_rounds => k_is)
    (case k_least_rounds => k_is)
    (case a_is_behind => k_is)
    (case l_is_behind => k_is)
    (case c_is_behind => k_is)
    (case k_is_behind => k_is)
    (case a_surely => k_is)
    (case l_surely => k_is)
    (case c_surely => k_is)
    (case k_surely => k_is)
    (case a_law_pool => k_is)
    (case l_law_pool => k_is)
    (case c_law_pool => k_is)
    (case k_law_pool => k_is)
    (case a_law_draw => k_is)
    (case l_law_draw => k_is)
    (case c_law_draw => k_is)
    (case k_law_draw => k_is)
    (case a_law_mixed => k_is)
    (case l_law_mixed => k_is)
    (case c_law_mixed => k_is)
    (case k_law_mixed => k_is)
    (case a_law_some_links => k_is)
    (case l_law_some_links => k_is)
    (case c_law_some_links => k_is)
    (case k_law_some_links => k_is)
    (case a_law_ring_links => k_is)
    (case l_law_ring_links => k_is)
    (case c_law_ring_links => k_is)
    (case k_law_ring_links => k_is)
    (case a_law_spec => k_is)
    (case l_law_spec => k_is)
    (case c_law_spec => k_is)
    (case k_law_spec => k_is)
    (case a_law_program => k_is)
    (case l_law_program => k_is)
    (case c_law_program => k_is)
    (case k_law_program => k_is)
    (case a_law_links => k_is)
    (case l_law_links => k_is)
    (case c_law_links => k_is)
    (case k_law_links => k_is)
    (case a_law_table => k_is)
    (case l_law_table => k_is)
    (case c_law_table => k_is)
    (case k_law_table => k_is)
    (case a_law_free => k_is)
    (case l_law_free => k_is)
    (case c_law_free => k_is)
    (case k_law_free => k_is)
    (case a_law_flood => k_is)
    (case l_law_flood => k_is)
    (case c_law_flood => k_is)
    (case k_law_flood => k_is)
    (case a_law_least_counts => k_is)
    (case l_law_least_counts => k_is)
    (case c_law_least_counts => k_is)
    (case k_law_least_counts => k_is)
    (case a_law => k_is)
    (case l_law => k_is)
    (case c_law => k_is)
    (case k_law => k_is)
    (case pg => k_is)
    (case hd => k_is)
    (case po => k_is)
    (case sa => k_is)
    (case mk => k_is)
    (case kC => k_is)
    (case n_steps => k_is)
    (case n_needs => k_is)
    (case n_befores => k_is)
    (case n_kept_links => k_is)
    (case n_kept_readers => k_is)
    (case n_kept_makers => k_is)
    (case g_MOST_STEPS => k_is)
    (case g_MOST_LINKS => k_is)
    (case g_MOST_ROUNDS => k_is)
    (case z_len => k_is)
    (case z_sum => k_is)
    (case z_all => k_is)
    (case z_abs => k_is)
    (case z_max => k_is)
    (case z_min => k_is)
    (case z_sorted => k_is)
    (case z_isinstance => k_is)
    (case z_int => k_is)
    (case z_bool => k_is)
    (case z_list => k_is)
    (case z_tuple => k_is)
    (case z_range => k_is)
    (case z_enumerate => k_is)
