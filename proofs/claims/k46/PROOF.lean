import PyProof.Rows.All
import Wide.All
import OpenK.AllK
import Wide.FinOn
import KE.KStateDown
import Lean
import HandS.ForMost
import HandS.Defaults
import HandS.Property
import HandS.Star
import HandS.ClsMeth
import HandS.IsInst
import HandS.Gcd
import HandS.Wide
import HandS.NoneIn
import HandS.TupAny
import HandS.Strs
import HandS.Walk
import HandS.IterVal
import HandS.Head0
import HandS.Head1
import HandS.Head2
import HandS.HeadEnd
import HandS.HeadHook1
import HandS.HeadHook2
import HandS.HeadNt
import HandS.Head3
import HandS.SlotsOwn
import KE.GoesMore
import KE.GoesEnum
import KE.DataMinMax
import HandS.SetFor
import HandS.SortKw
import HandS.Steps
import HandS.Small
import HandS.TryOnly
import PySem.Challenge.RW_usualdays_k46_whole_sums_of_doubts_for_a
set_option Elab.async false
set_option linter.all false
set_option maxRecDepth 100000
set_option maxHeartbeats 4100000
namespace UM
/-! ### masks -/
def dif (a b : Nat) : Nat := a ^^^ (a &&& b)
theorem tb_dif (a b i : Nat) : (dif a b).testBit i = (a.testBit i && !b.testBit i) := by
  unfold dif
  rw [Nat.testBit_xor, Nat.testBit_and]
  cases a.testBit i <;> cases b.testBit i <;> rfl
def Sub (a b : Nat) : Prop := ∀ i, a.testBit i = true → b.testBit i = true
theorem dif_zero {a b : Nat} : dif a b = 0 ↔ Sub a b := by
  constructor
  · intro h i hi
    have q := tb_dif a b i
    rw [h, Nat.zero_testBit, hi] at q
    cases e : b.testBit i with
    | true => rfl
    | false => rw [e] at q; cases q
  · intro h
    apply Nat.eq_of_testBit_eq
    intro i
    rw [tb_dif, Nat.zero_testBit]
    cases e : a.testBit i with
    | false => rfl
    | true => rw [h i e]; rfl
instance (a b : Nat) : Decidable (Sub a b) := decidable_of_iff (dif a b = 0) dif_zero
theorem dif_le (a b : Nat) : dif a b ≤ a := by
  have h : dif a b &&& a = dif a b := by
    apply Nat.eq_of_testBit_eq
    intro i
    rw [Nat.testBit_and, tb_dif]
    cases a.testBit i <;> cases b.testBit i <;> rfl
  rw [← h]
  exact Nat.and_le_right
theorem dif_lt {a b n : Nat} (h : a < n) : dif a b < n := Nat.lt_of_le_of_lt (dif_le a b) h
theorem sub_lt {a b k : Nat} (h : Sub a b) (hb : b < 2 ^ k) : a < 2 ^ k := by
  apply Nat.lt_of_not_le
  intro hk
  obtain ⟨i, hi, ht⟩ := Nat.exists_ge_and_testBit_of_ge_two_pow hk
  have h2 := h i ht
  rw [Nat.testBit_lt_two_pow (Nat.lt_of_lt_of_le hb (Nat.pow_le_pow_right (by decide) hi))] at h2
  cases h2
theorem lt_of_tb {m n i : Nat} (h : m < 2 ^ n) (hi : m.testBit i = true) : i < n := by
  apply Nat.lt_of_not_le
  intro hn
  rw [Nat.testBit_lt_two_pow (Nat.lt_of_lt_of_le h (Nat.pow_le_pow_right (by decide) hn))] at hi
  cases hi
theorem exists_tb {m : Nat} (h : m ≠ 0) : ∃ i, m.testBit i = true := Nat.exists_testBit_of_ne_zero h

/-- a pair: the confirming and the breaking days -/
abbrev P := Nat × Nat
def orC : List P → Nat
  | [] => 0
  | p :: r => p.1 ||| orC r
def orB : List P → Nat
  | [] => 0
  | p :: r => p.2 ||| orB r
theorem tb_orC {L : List P} {i : Nat} : (orC L).testBit i = true ↔ ∃ p ∈ L, p.1.testBit i = true := by
  induction L with
  | nil => simp [orC]
  | cons p r ih => simp [orC, Nat.testBit_or, ih]
theorem tb_orB {L : List P} {i : Nat} : (orB L).testBit i = true ↔ ∃ p ∈ L, p.2.testBit i = true := by
  induction L with
  | nil => simp [orB]
  | cons p r ih => simp [orB, Nat.testBit_or, ih]
theorem orC_append (L M : List P) : orC (L ++ M) = orC L ||| orC M := by
  induction L with
  | nil => simp [orC]
  | cons p r ih => simp [orC, ih, Nat.or_assoc]
theorem orB_append (L M : List P) : orB (L ++ M) = orB L ||| orB M := by
  induction L with
  | nil => simp [orB]
  | cons p r ih => simp [orB, ih, Nat.or_assoc]
theorem orC_snoc (L : List P) (p : P) : orC (L ++ [p]) = orC L ||| p.1 := by simp [orC_append, orC]
theorem orB_snoc (L : List P) (p : P) : orB (L ++ [p]) = orB L ||| p.2 := by simp [orB_append, orB]
/-- the joined verdicts -/
def joinP (L : List P) : P := (dif (orC L) (orB L), orB L)
theorem joinP_nil : joinP [] = (0, 0) := rfl
theorem joinP_snoc (L : List P) (p : P) : joinP (L ++ [p]) = (dif ((joinP L).1 ||| p.1) ((joinP L).2 ||| p.2), (joinP L).2 ||| p.2) := by
  unfold joinP
  rw [orC_snoc, orB_snoc]
  refine Prod.ext ?_ rfl
  apply Nat.eq_of_testBit_eq
  intro i
  simp only [tb_dif, Nat.testBit_or]
  cases (orC L).testBit i <;> cases (orB L).testBit i <;> cases p.1.testBit i <;> cases p.2.testBit i <;> rfl
def sharp (v s : P) : Bool := dif v.1 s.1 == 0 && dif s.2 v.2 == 0
theorem sharp_iff {v s : P} : sharp v s = true ↔ Sub v.1 s.1 ∧ Sub s.2 v.2 := by
  unfold sharp
  rw [Bool.and_eq_true, beq_iff_eq, beq_iff_eq, dif_zero, dif_zero]
def Sharp (L : List P) (s : P) : Prop := Sub (dif (orC L) (orB L)) s.1 ∧ Sub s.2 (orB L)
theorem Sharp_iff {L : List P} {s : P} : sharp (joinP L) s = true ↔ Sharp L s := sharp_iff
theorem Sharp.congr {L M : List P} {s : P} (h : Sharp L s) (h1 : ∀ p ∈ L, p ∈ M) (h2 : ∀ p ∈ M, p ∈ L) : Sharp M s := by
  have eC : orC L = orC M := by
    apply Nat.eq_of_testBit_eq
    intro i
    rw [Bool.eq_iff_iff, tb_orC, tb_orC]
    exact ⟨fun ⟨p, a, b⟩ => ⟨p, h1 p a, b⟩, fun ⟨p, a, b⟩ => ⟨p, h2 p a, b⟩⟩
  have eB : orB L = orB M := by
    apply Nat.eq_of_testBit_eq
    intro i
    rw [Bool.eq_iff_iff, tb_orB, tb_orB]
    exact ⟨fun ⟨p, a, b⟩ => ⟨p, h1 p a, b⟩, fun ⟨p, a, b⟩ => ⟨p, h2 p a, b⟩⟩
  unfold Sharp at h ⊢
  rw [← eC, ← eB]
  exact h
/-- some lot is sharp -/
def Y (ps : List P) (s : P) : Prop := ∃ L : List P, (∀ p ∈ L, p ∈ ps) ∧ Sharp L s
theorem Y.congr {ps qs : List P} {s : P} (h : Y ps s) (h1 : ∀ p ∈ ps, p ∈ qs) : Y qs s := by
  obtain ⟨L, a, b⟩ := h
  exact ⟨L, fun p hp => h1 p (a p hp), b⟩

/-! ### choosing by place -/
def fmI {α β : Type} (f : Nat → α → Option β) : Nat → List α → List β
  | _, [] => []
  | i, x :: xs => (f i x).toList ++ fmI f (i + 1) xs
def fm {α β : Type} (f : Nat → α → Option β) (xs : List α) : List β := fmI f 0 xs
theorem fmI_append {α β : Type} (f : Nat → α → Option β) : ∀ (xs ys : List α) (i : Nat), fmI f i (xs ++ ys) = fmI f i xs ++ fmI f (i + xs.length) ys
  | [], ys, i => by simp [fmI]
  | x :: xs, ys, i => by
    simp only [List.cons_append, fmI, fmI_append f xs ys (i + 1), List.append_assoc, List.length_cons]
    rw [show i + 1 + xs.length = i + (xs.length + 1) from by omega]
theorem fm_succ {α β : Type} (f : Nat → α → Option β) {xs : List α} {i : Nat} {x : α} (h : xs[i]? = some x) : fm f (xs.take (i + 1)) = fm f (xs.take i) ++ (f i x).toList := by
  have hi : i < xs.length := by
    obtain ⟨h1, _⟩ := List.getElem?_eq_some_iff.mp h
    exact h1
  have e : xs.take (i + 1) = xs.take i ++ [x] := by
    rw [List.take_add_one, h]
    rfl
  unfold fm
  rw [e, fmI_append, List.length_take, Nat.min_eq_left (Nat.le_of_lt hi), Nat.zero_add]
  simp [fmI]
theorem fm_zero {α β : Type} (f : Nat → α → Option β) (xs : List α) : fm f (xs.take 0) = [] := rfl
theorem fm_all {α β : Type} (f : Nat → α → Option β) (xs : List α) : fm f (xs.take xs.length) = fm f xs := by rw [List.take_length]
theorem fmI_len {α β : Type} (f : Nat → α → Option β) : ∀ (xs : List α) (i : Nat), (fmI f i xs).length ≤ xs.length
  | [], _ => Nat.le_refl _
  | x :: xs, i => by
    have h := fmI_len f xs (i + 1)
    cases e : f i x with
    | none => simp [fmI, e]; omega
    | some y => simp [fmI, e]; omega
theorem fm_len {α β : Type} (f : Nat → α → Option β) (xs : List α) : (fm f xs).length ≤ xs.length := fmI_len f xs 0
theorem fm_len_take {α β : Type} (f : Nat → α → Option β) (xs : List α) (i : Nat) : (fm f (xs.take i)).length ≤ i := by
  refine Nat.le_trans (fm_len f _) ?_
  rw [List.length_take]
  exact Nat.min_le_left _ _
theorem mem_fmI {α β : Type} {f : Nat → α → Option β} {y : β} : ∀ {xs : List α} {i : Nat}, y ∈ fmI f i xs ↔ ∃ k x, xs[k]? = some x ∧ f (i + k) x = some y
  | [], i => by simp [fmI]
  | x :: xs, i => by
    rw [show fmI f i (x :: xs) = (f i x).toList ++ fmI f (i + 1) xs from rfl, List.mem_append, mem_fmI]
    constructor
    · rintro (h | ⟨k, z, h1, h2⟩)
      · refine ⟨0, x, rfl, ?_⟩
        cases e : f i x with
        | none => rw [e] at h; simp at h
        | some w => rw [e] at h; simp at h; rw [h]
      · exact ⟨k + 1, z, by simpa using h1, by rw [show i + (k + 1) = i + 1 + k from by omega]; exact h2⟩
    · rintro ⟨k, z, h1, h2⟩
      cases k with
      | zero =>
        left
        simp at h1
        subst h1
        rw [Nat.add_zero] at h2
        simp [h2]
      | succ k =>
        right
        exact ⟨k, z, by simpa using h1, by rw [show i + 1 + k = i + (k + 1) from by omega]; exact h2⟩
theorem mem_fm {α β : Type} {f : Nat → α → Option β} {y : β} {xs : List α} : y ∈ fm f xs ↔ ∃ k x, xs[k]? = some x ∧ f k x = some y := by
  unfold fm
  rw [mem_fmI]
  simp
theorem fmI_ext {α β : Type} {f g : Nat → α → Option β} : ∀ {xs : List α} {i : Nat}, (∀ k x, xs[k]? = some x → f (i + k) x = g (i + k) x) → fmI f i xs = fmI g i xs
  | [], _, _ => rfl
  | x :: xs, i, h => by
    have h0 := h 0 x rfl
    rw [Nat.add_zero] at h0
    show (f i x).toList ++ _ = (g i x).toList ++ _
    have h1 : fmI f (i + 1) xs = fmI g (i + 1) xs := fmI_ext fun k z hz => by
      have := h (k + 1) z (by simpa using hz)
      rw [show i + 1 + k = i + (k + 1) from by omega]
      exact this
    rw [h0, h1]
theorem fm_ext {α β : Type} {f g : Nat → α → Option β} {xs : List α} (h : ∀ k x, xs[k]? = some x → f k x = g k x) : fm f xs = fm g xs := fmI_ext fun k x hx => by rw [Nat.zero_add]; exact h k x hx
theorem map_fmI {α β γ : Type} (f : Nat → α → Option β) (g : β → γ) : ∀ (xs : List α) (i : Nat), (fmI f i xs).map g = fmI (fun i x => (f i x).map g) i xs
  | [], _ => rfl
  | x :: xs, i => by
    show ((f i x).toList ++ _).map g = _
    rw [List.map_append, map_fmI f g xs]
    cases e : f i x <;> simp [fmI, e]
theorem map_fm {α β γ : Type} (f : Nat → α → Option β) (g : β → γ) (xs : List α) : (fm f xs).map g = fm (fun i x => (f i x).map g) xs := map_fmI f g xs 0

/-- a code's lot -/
def sel (code : Nat) (ps : List P) : List P := fm (fun i p => if code.testBit i = true then some p else none) ps
theorem sel_mem {code : Nat} {ps : List P} : ∀ p ∈ sel code ps, p ∈ ps := fun p hp => by
  obtain ⟨k, x, h1, h2⟩ := mem_fm.mp hp
  split at h2
  · cases h2
    exact List.mem_of_getElem? h1
  · cases h2
/-- a number with given digits -/
theorem code_of (f : Nat → Bool) : ∀ n : Nat, ∃ c, c < 2 ^ n ∧ ∀ i, i < n → c.testBit i = f i
  | 0 => ⟨0, by decide, fun i h => by omega⟩
  | n + 1 => by
    obtain ⟨c, h1, h2⟩ := code_of f n
    refine ⟨c ||| (if f n = true then 2 ^ n else 0), ?_, fun i hi => ?_⟩
    · apply Nat.or_lt_two_pow
      · exact Nat.lt_of_lt_of_le h1 (Nat.pow_le_pow_right (by decide) (by omega))
      · split
        · exact Nat.pow_lt_pow_right (by decide) (by omega)
        · exact Nat.two_pow_pos _
    · rw [Nat.testBit_or]
      by_cases e : i = n
      · subst e
        rw [Nat.testBit_lt_two_pow h1]
        cases q : f i with
        | true => simp [Nat.testBit_two_pow_self]
        | false => simp
      · rw [h2 i (by omega)]
        split
        · rw [Nat.testBit_two_pow_of_ne (by omega)]
          simp
        · simp
theorem Y_code {ps : List P} {s : P} : Y ps s ↔ ∃ code, code < 2 ^ ps.length ∧ sharp (joinP (sel code ps)) s = true := by
  constructor
  · rintro ⟨L, h1, h2⟩
    obtain ⟨c, hc, hb⟩ := code_of (fun i => (ps[i]?).any fun p => decide (p ∈ L)) ps.length
    refine ⟨c, hc, Sharp_iff.mpr (h2.congr (fun p hp => ?_) fun p hp => ?_)⟩
    · obtain ⟨k, hk⟩ := List.getElem?_of_mem (h1 p hp)
      have hlt : k < ps.length := (List.getElem?_eq_some_iff.mp hk).1
      refine mem_fm.mpr ⟨k, p, hk, ?_⟩
      rw [hb k hlt, hk]
      simp [hp]
    · obtain ⟨k, x, h3, h4⟩ := mem_fm.mp hp
      have hlt : k < ps.length := (List.getElem?_eq_some_iff.mp h3).1
      rw [hb k hlt, h3] at h4
      split at h4
      · rename_i q
        cases h4
        simpa using q
      · cases h4
  · rintro ⟨c, _, h⟩
    exact ⟨_, sel_mem, Sharp_iff.mp h⟩
end UM
set_option maxHeartbeats 4100000
namespace UM
/-! ### layers -/
abbrev Lay := List (Option Nat)
def lay (l : Lay) (d : Nat) : Option Nat := (l[d]?).join
theorem lay_lt {l : Lay} {d v : Nat} (h : lay l d = some v) : d < l.length := by
  unfold lay at h
  cases e : l[d]? with
  | none => rw [e ] at h; cases h
  | some x => exact (List.getElem?_eq_some_iff.mp e).1
theorem lay_none {l : Lay} {d : Nat} (h : l.length ≤ d) : lay l d = none := by
  unfold lay
  rw [List.getElem?_eq_none_iff.mpr h]
  rfl
/-- low, high, step -/
abbrev Row := Nat × Nat × Nat
def SoundA (rows : List Row) (l : Lay) : Prop := ∀ d v, lay l d = some v → ∀ r ∈ rows, r.2.1.testBit d = true → ∃ e u, r.1.testBit e = true ∧ lay l e = some u ∧ u + r.2.2 ≤ v
/-- what holds a day back, of a set T of days that may stay -/
def Blk (rows : List Row) (l : Lay) (T : Nat → Prop) (d : Nat) : Prop := ∃ r ∈ rows, r.2.1.testBit d = true ∧ ∀ e, r.1.testBit e = true → lay l e = none ∧ (r.2.2 = 1 ∨ ¬ T e)
def StuckB (rows : List Row) (l : Lay) : Prop := ∀ T : Nat → Prop, (∃ d, T d) → (∀ d, T d → d < l.length ∧ lay l d = none) → ∃ d, T d ∧ Blk rows l T d
def Step1 (rows : List Row) : Prop := ∀ r ∈ rows, r.2.2 = 1
/-- days that hold one another up never come -/
theorem greatest {rows : List Row} {l : Lay} (A : SoundA rows l) (h1 : Step1 rows) {S : Nat → Prop} (hS : ∀ d, S d → ∃ r ∈ rows, r.2.1.testBit d = true ∧ ∀ e, r.1.testBit e = true → S e) : ∀ d, S d → lay l d = none := by
  have key : ∀ n d v, v ≤ n → S d → lay l d = some v → False := by
    intro n
    induction n with
    | zero =>
      intro d v hv hd hl
      obtain ⟨r, hr, hh, hlow⟩ := hS d hd
      obtain ⟨e, u, he, hle, hu⟩ := A d v hl r hr hh
      have := h1 r hr
      omega
    | succ n ih =>
      intro d v hv hd hl
      obtain ⟨r, hr, hh, hlow⟩ := hS d hd
      obtain ⟨e, u, he, hle, hu⟩ := A d v hl r hr hh
      have := h1 r hr
      exact ih e u (by omega) (hlow e he) hle
  intro d hd
  cases e : lay l d with
  | none => rfl
  | some v => exact (key v d v (Nat.le_refl _) hd e).elim
theorem stuck1 {rows : List Row} {l : Lay} (B : StuckB rows l) (h1 : Step1 rows) {d : Nat} (hd : d < l.length) (hn : lay l d = none) : ∃ r ∈ rows, r.2.1.testBit d = true ∧ ∀ e, r.1.testBit e = true → lay l e = none := by
  obtain ⟨d', rfl, r, hr, hh, hl⟩ := B (fun e => e = d) ⟨d, rfl⟩ (fun e he => by subst he; exact ⟨hd, hn⟩)
  exact ⟨r, hr, hh, fun e he => (hl e he).1⟩

def rowU (p : P) : Row := (p.1, p.2, 1)
def rowsU (ps : List P) : List Row := ps.map rowU
/-- the flipped saying, the contrary -/
def rowF (s : P) : Row := (s.2, s.1, 1)
def rowC (s : P) : Row := (s.2, s.1, 0)
theorem step1_flip (ps : List P) (s : P) : Step1 (rowsU ps ++ [rowF s]) := by
  intro r hr
  rcases List.mem_append.mp hr with h | h
  · obtain ⟨p, _, rfl⟩ := List.mem_map.mp h
    rfl
  · rw [List.mem_singleton.mp h]; rfl
theorem step1_book (ps : List P) : Step1 (rowsU ps) := by
  intro r hr
  obtain ⟨p, _, rfl⟩ := List.mem_map.mp hr
  rfl
def Dis (p : P) : Prop := ∀ i, p.1.testBit i = true → p.2.testBit i = true → False
/-- endless days as a mask -/
def EndOf (l : Lay) (E : Nat) : Prop := ∀ d, E.testBit d = true ↔ d < l.length ∧ lay l d = none
section
variable {ps : List P} {s : P} {l : Lay} {E : Nat}
theorem yes_of (A : SoundA (rowsU ps ++ [rowF s]) l) (B : StuckB (rowsU ps ++ [rowF s]) l) (hE : EndOf l E) (hd : Dis s) (hp : ∀ p ∈ ps, p.1 < 2 ^ l.length) (hs : s.2 < 2 ^ l.length) (h : Sub s.2 E) (L : List P)
    (hL : ∀ p, p ∈ L ↔ p ∈ ps ∧ Sub p.1 E) : Sharp L s := by
  have h1 := step1_flip ps s
  refine ⟨fun d hd1 => ?_, fun d hd1 => ?_⟩
  · rw [tb_dif] at hd1
    obtain ⟨c1, c2⟩ := Bool.and_eq_true_iff.mp hd1
    obtain ⟨p, hpL, hpd⟩ := tb_orC.mp c1
    obtain ⟨hpp, hpE⟩ := (hL p).mp hpL
    obtain ⟨q1, q2⟩ := (hE d).mp (hpE d hpd)
    obtain ⟨r, hr, hh, hlow⟩ := stuck1 B h1 q1 q2
    rcases List.mem_append.mp hr with h2 | h2
    · obtain ⟨q, hq, rfl⟩ := List.mem_map.mp h2
      have : q ∈ L := (hL q).mpr ⟨hq, fun e he => (hE e).mpr ⟨lt_of_tb (hp q hq) he, hlow e he⟩⟩
      have b1 : (orB L).testBit d = true := tb_orB.mpr ⟨q, this, hh⟩
      rw [b1] at c2
      cases c2
    · rw [List.mem_singleton.mp h2] at hh
      exact hh
  · obtain ⟨q1, q2⟩ := (hE d).mp (h d hd1)
    obtain ⟨r, hr, hh, hlow⟩ := stuck1 B h1 q1 q2
    rcases List.mem_append.mp hr with h2 | h2
    · obtain ⟨q, hq, rfl⟩ := List.mem_map.mp h2
      exact tb_orB.mpr ⟨q, (hL q).mpr ⟨hq, fun e he => (hE e).mpr ⟨lt_of_tb (hp q hq) he, hlow e he⟩⟩, hh⟩
    · rw [List.mem_singleton.mp h2] at hh
      exact (hd d hh hd1).elim
theorem end_of_yes (A : SoundA (rowsU ps ++ [rowF s]) l) (hE : EndOf l E) (hs : s.2 < 2 ^ l.length) (y : Y ps s) : Sub s.2 E := by
  obtain ⟨L, hL, a, b⟩ := y
  have g := greatest A (step1_flip ps s) (S := fun d => (orC L).testBit d = true ∨ (orB L).testBit d = true) (fun d hd => by
    by_cases hb : (orB L).testBit d = true
    · obtain ⟨p, hp, hpd⟩ := tb_orB.mp hb
      exact ⟨rowU p, List.mem_append_left _ (List.mem_map.mpr ⟨p, hL p hp, rfl⟩), hpd, fun e he => .inl (tb_orC.mpr ⟨p, hp, he⟩)⟩
    · rcases hd with hd | hd
      · refine ⟨rowF s, List.mem_append_right _ (List.mem_singleton.mpr rfl), a d ?_, fun e he => .inr (b e he)⟩
        rw [tb_dif, hd]
        cases q : (orB L).testBit d with
        | true => exact absurd q hb
        | false => rfl
      · exact absurd hd hb)
  intro d hd
  exact (hE d).mpr ⟨lt_of_tb hs hd, g d (.inr (b d hd))⟩
/-- a yielded saying's contrary stops the lifting -/
theorem stuck_of_yes (A : SoundA (rowsU ps ++ [rowC s]) l) (hne : ∃ d, d < l.length ∧ (s.1.testBit d = true ∨ s.2.testBit d = true)) (hps : ∀ p ∈ ps, p.1 < 2 ^ l.length ∧ p.2 < 2 ^ l.length) (y : Y ps s) (hs1 : s.1 < 2 ^ l.length) : ∃ d, d < l.length ∧ lay l d = none := by
  obtain ⟨L, hL, a, b⟩ := y
  have key : ∀ n d v, v ≤ n → ((orB L).testBit d = true ∨ s.1.testBit d = true) → lay l d = some v → ∃ e, ((orB L).testBit e = true ∨ s.1.testBit e = true) ∧ lay l e = none := by
    intro n
    induction n with
    | zero =>
      intro d v hv hd hl
      have hB : ∀ d v, v ≤ 0 → (orB L).testBit d = true → lay l d = some v → ∃ e, ((orB L).testBit e = true ∨ s.1.testBit e = true) ∧ lay l e = none := by
        intro d v hv hd hl
        obtain ⟨p, hp, hpd⟩ := tb_orB.mp hd
        obtain ⟨e, u, he, hle, hu⟩ := A d v hl (rowU p) (List.mem_append_left _ (List.mem_map.mpr ⟨p, hL p hp, rfl⟩)) hpd
        have hu' : u + 1 ≤ v := hu
        omega
      by_cases hb : (orB L).testBit d = true
      · exact hB d v hv hb hl
      · have hd1 : s.1.testBit d = true := hd.resolve_left hb
        obtain ⟨e, u, he, hle, hu⟩ := A d v hl (rowC s) (List.mem_append_right _ (List.mem_singleton.mpr rfl)) hd1
        have hu' : u + 0 ≤ v := hu
        exact hB e u (by omega) (b e he) hle
    | succ n ih =>
      intro d v hv hd hl
      have hB : ∀ d v, v ≤ n + 1 → (orB L).testBit d = true → lay l d = some v → ∃ e, ((orB L).testBit e = true ∨ s.1.testBit e = true) ∧ lay l e = none := by
        intro d v hv hd hl
        obtain ⟨p, hp, hpd⟩ := tb_orB.mp hd
        obtain ⟨e, u, he, hle, hu⟩ := A d v hl (rowU p) (List.mem_append_left _ (List.mem_map.mpr ⟨p, hL p hp, rfl⟩)) hpd
        have hu' : u + 1 ≤ v := hu
        refine ih e u (by omega) ?_ hle
        by_cases hb : (orB L).testBit e = true
        · exact .inl hb
        · refine .inr (a e ?_)
          rw [tb_dif, tb_orC.mpr ⟨p, hp, he⟩]
          cases q : (orB L).testBit e with
          | true => exact absurd q hb
          | false => rfl
      by_cases hb : (orB L).testBit d = true
      · exact hB d v hv hb hl
      · have hd1 : s.1.testBit d = true := hd.resolve_left hb
        obtain ⟨e, u, he, hle, hu⟩ := A d v hl (rowC s) (List.mem_append_right _ (List.mem_singleton.mpr rfl)) hd1
        have hu' : u + 0 ≤ v := hu
        exact hB e u (by omega) (b e he) hle
  have bound : ∀ e, ((orB L).testBit e = true ∨ s.1.testBit e = true) → e < l.length := by
    rintro e (he | he)
    · obtain ⟨p, hp, hpd⟩ := tb_orB.mp he
      exact lt_of_tb (hps p (hL p hp)).2 hpd
    · exact lt_of_tb hs1 he
  obtain ⟨d, hd, h⟩ := hne
  have hd' : (orB L).testBit d = true ∨ s.1.testBit d = true := h.elim .inr fun q => .inl (b d q)
  cases e : lay l d with
  | none => exact ⟨d, hd, e⟩
  | some v =>
    obtain ⟨e, he, hl⟩ := key v d v (Nat.le_refl _) hd' e
    exact ⟨e, bound e he, hl⟩
/-- an order that keeps all rows lets the lifting end -/
theorem not_stuck {rows : List Row} {μ : Nat → Nat} (B : StuckB rows l) (hb : ∀ r ∈ rows, r.1 < 2 ^ l.length) (keeps : ∀ r ∈ rows, ∀ d, d < l.length → r.2.1.testBit d = true → ∃ e, r.1.testBit e = true ∧ μ e + r.2.2 ≤ μ d) (hst : ∀ r ∈ rows, r.2.2 = 0 ∨ r.2.2 = 1) :
    ∀ d, d < l.length → lay l d ≠ none := by
  intro d hd hn
  -- the least one of those left
  have least : ∀ n d, μ d ≤ n → d < l.length → lay l d = none → ∃ m, m < l.length ∧ lay l m = none ∧ ∀ e, e < l.length → lay l e = none → μ m ≤ μ e := by
    intro n
    induction n with
    | zero => intro d h1 h2 h3; exact ⟨d, h2, h3, fun e _ _ => by omega⟩
    | succ n ih =>
      intro d h1 h2 h3
      by_cases q : ∃ e, e < l.length ∧ lay l e = none ∧ μ e < μ d
      · obtain ⟨e, e1, e2, e3⟩ := q
        exact ih e (by omega) e1 e2
      · exact ⟨d, h2, h3, fun e e1 e2 => Nat.le_of_not_lt fun q2 => q ⟨e, e1, e2, q2⟩⟩
  obtain ⟨m, m1, m2, m3⟩ := least (μ d) d (Nat.le_refl _) hd hn
  obtain ⟨t, ⟨t1, t2, t3⟩, r, hr, hh, hlow⟩ := B (fun e => e < l.length ∧ lay l e = none ∧ μ e = μ m) ⟨m, m1, m2, rfl⟩ (fun e he => ⟨he.1, he.2.1⟩)
  obtain ⟨e, he, hu⟩ := keeps r hr t t1 hh
  obtain ⟨e1, e2⟩ := hlow e he
  have el : e < l.length := lt_of_tb (hb r hr) he
  have ge := m3 e el e1
  rcases e2 with e2 | e2
  · omega
  · rcases hst r hr with q | q
    · exact e2 ⟨el, e1, by omega⟩
    · omega
/-- what is not yielded: an order of the book (k) can be bent so that it keeps the contrary too -/
theorem free_of_not {k l2 : Lay} (A : SoundA (rowsU ps ++ [rowF s]) l) (hE : EndOf l E) (hs : s.2 < 2 ^ l.length) (hs1 : s.1 < 2 ^ l.length) (hp : ∀ p ∈ ps, p.1 < 2 ^ l.length) (h : ¬ Sub s.2 E)
    (Ak : SoundA (rowsU ps) k) (hk : ∀ d, d < k.length → lay k d ≠ none) (ek : k.length = l.length) (B2 : StuckB (rowsU ps ++ [rowC s]) l2) (e2 : l2.length = l.length) : ∀ d, d < l2.length → lay l2 d ≠ none := by
  -- a bound of the first layers
  have bd : ∃ M, ∀ d v, lay l d = some v → v < M := by
    have : ∀ xs : Lay, ∃ M, ∀ x ∈ xs, ∀ v, x = some v → v < M := by
      intro xs
      induction xs with
      | nil => exact ⟨0, fun x hx => by cases hx⟩
      | cons y r ih =>
        obtain ⟨M, hM⟩ := ih
        refine ⟨max M (y.getD 0 + 1), fun x hx v hv => ?_⟩
        rcases List.mem_cons.mp hx with q | q
        · subst q; subst hv; simp only [Option.getD_some]; omega
        · have := hM x q v hv; omega
    obtain ⟨M, hM⟩ := this l
    refine ⟨M, fun d v hv => ?_⟩
    unfold lay at hv
    cases q : l[d]? with
    | none => rw [q] at hv; cases hv
    | some x => rw [q] at hv; exact hM x (List.mem_of_getElem? q) v hv
  obtain ⟨M, hM⟩ := bd
  let μ : Nat → Nat := fun d => match lay l d with
    | some v => v
    | none => M + (lay k d).getD 0
  have μs : ∀ d v, lay l d = some v → μ d = v := fun d v hv => by show (match lay l d with | some v => v | none => M + (lay k d).getD 0) = v; rw [hv]
  have μn : ∀ d, lay l d = none → μ d = M + (lay k d).getD 0 := fun d hv => by show (match lay l d with | some v => v | none => M + (lay k d).getD 0) = _; rw [hv]
  refine not_stuck (μ := μ) B2 (fun r hr => ?_) (fun r hr d hd hh => ?_) (fun r hr => ?_)
  · rw [e2]
    rcases List.mem_append.mp hr with q | q
    · obtain ⟨p, hpp, rfl⟩ := List.mem_map.mp q
      exact hp p hpp
    · rw [List.mem_singleton.mp q]; exact hs
  · rw [e2] at hd
    rcases List.mem_append.mp hr with q | q
    · obtain ⟨p, hpp, rfl⟩ := List.mem_map.mp q
      cases e : lay l d with
      | some v =>
        obtain ⟨e1, u, h1, h2, h3⟩ := A d v e (rowU p) (List.mem_append_left _ q) hh
        exact ⟨e1, h1, by rw [μs d v e, μs e1 u h2]; exact h3⟩
      | none =>
        cases ekd : lay k d with
        | none => exact absurd ekd (hk d (by omega))
        | some v =>
          obtain ⟨e1, u, h1, h2, h3⟩ := Ak d v ekd (rowU p) q hh
          refine ⟨e1, h1, ?_⟩
          have h3' : u + 1 ≤ v := h3
          show μ e1 + 1 ≤ μ d
          rw [μn d e, ekd]
          cases e3 : lay l e1 with
          | some x =>
            rw [μs e1 x e3]
            have := hM e1 x e3
            simp only [Option.getD_some]
            omega
          | none =>
            rw [μn e1 e3, h2]
            simp only [Option.getD_some]
            omega
    · rw [List.mem_singleton.mp q] at hh ⊢
      have hrow : rowF s ∈ rowsU ps ++ [rowF s] := List.mem_append_right _ (List.mem_singleton.mpr rfl)
      show ∃ e, s.2.testBit e = true ∧ μ e + 0 ≤ μ d
      cases e : lay l d with
      | some v =>
        obtain ⟨e1, u, h1, h2, h3⟩ := A d v e (rowF s) hrow hh
        have h3' : u + 1 ≤ v := h3
        exact ⟨e1, h1, by rw [μs d v e, μs e1 u h2]; omega⟩
      | none =>
        obtain ⟨x, hx1, hx2⟩ : ∃ x, s.2.testBit x = true ∧ E.testBit x ≠ true := by
          apply Classical.byContradiction
          intro no
          exact h fun x hx => Classical.byContradiction fun q => no ⟨x, hx, q⟩
        have xl := lt_of_tb hs hx1
        cases e3 : lay l x with
        | none => exact absurd ((hE x).mpr ⟨xl, e3⟩) hx2
        | some u =>
          refine ⟨x, hx1, ?_⟩
          rw [μn d e, μs x u e3]
          have := hM x u e3
          omega
  · rcases List.mem_append.mp hr with q | q
    · obtain ⟨p, hpp, rfl⟩ := List.mem_map.mp q
      exact .inr rfl
    · rw [List.mem_singleton.mp q]; exact .inl rfl
end
end UM
set_option maxHeartbeats 4100000
namespace UM
/-! ### weights -/
def wtI : Nat → List Nat → Nat → Nat
  | _, [], _ => 0
  | i, x :: xs, m => (if m.testBit i = true then x else 0) + wtI (i + 1) xs m
def wt (ns : List Nat) (m : Nat) : Nat := wtI 0 ns m
theorem wtI_mono {a b : Nat} (h : Sub a b) : ∀ (ns : List Nat) (i : Nat), wtI i ns a ≤ wtI i ns b
  | [], _ => Nat.le_refl _
  | x :: xs, i => by
    have ih := wtI_mono h xs (i + 1)
    show (if a.testBit i = true then x else 0) + _ ≤ (if b.testBit i = true then x else 0) + _
    by_cases q : a.testBit i = true
    · rw [if_pos q, if_pos (h i q)]; omega
    · rw [if_neg q]; split <;> omega
theorem wtI_or {a b : Nat} : ∀ (ns : List Nat) (i : Nat), wtI i ns (a ||| b) ≤ wtI i ns a + wtI i ns b
  | [], _ => Nat.le_refl _
  | x :: xs, i => by
    have ih := wtI_or (a := a) (b := b) xs (i + 1)
    show (if (a ||| b).testBit i = true then x else 0) + _ ≤ ((if a.testBit i = true then x else 0) + _) + ((if b.testBit i = true then x else 0) + _)
    rw [Nat.testBit_or]
    cases a.testBit i <;> cases b.testBit i <;> simp <;> omega
theorem wtI_dis {a b : Nat} (h : ∀ i, a.testBit i = true → b.testBit i = true → False) : ∀ (ns : List Nat) (i : Nat), wtI i ns (a ||| b) = wtI i ns a + wtI i ns b
  | [], _ => rfl
  | x :: xs, i => by
    have ih := wtI_dis h xs (i + 1)
    show (if (a ||| b).testBit i = true then x else 0) + _ = ((if a.testBit i = true then x else 0) + _) + ((if b.testBit i = true then x else 0) + _)
    rw [Nat.testBit_or]
    have hi := h i
    revert hi
    cases a.testBit i <;> cases b.testBit i <;> simp <;> omega
theorem wt_mono {a b : Nat} (h : Sub a b) (ns : List Nat) : wt ns a ≤ wt ns b := wtI_mono h ns 0
theorem wt_or (ns : List Nat) (a b : Nat) : wt ns (a ||| b) ≤ wt ns a + wt ns b := wtI_or ns 0
theorem wt_dis {p : P} (h : Dis p) (ns : List Nat) : wt ns (p.1 ||| p.2) = wt ns p.1 + wt ns p.2 := wtI_dis h ns 0
theorem wtI_zero : ∀ (ns : List Nat) (i : Nat), wtI i ns 0 = 0
  | [], _ => rfl
  | x :: xs, i => by
    show (if (0 : Nat).testBit i = true then x else 0) + _ = 0
    rw [Nat.zero_testBit, wtI_zero xs]; rfl
theorem wt_zero (ns : List Nat) : wt ns 0 = 0 := wtI_zero ns 0
theorem wtI_get {m : Nat} : ∀ (ns : List Nat) (i k x : Nat), ns[k]? = some x → m.testBit (i + k) = true → x ≤ wtI i ns m
  | [], _, _, _, h, _ => by (simp at h)
  | y :: ys, i, 0, x, h, hb => by
    simp at h
    subst h
    show y ≤ (if m.testBit i = true then y else 0) + _
    rw [Nat.add_zero] at hb
    rw [if_pos hb]; omega
  | y :: ys, i, k + 1, x, h, hb => by
    have := wtI_get ys (i + 1) k x (by simpa using h) (by rw [show i + 1 + k = i + (k + 1) from by omega]; exact hb)
    show x ≤ (if m.testBit i = true then y else 0) + _
    omega
theorem wt_get {m k x : Nat} {ns : List Nat} (h : ns[k]? = some x) (hb : m.testBit k = true) : x ≤ wt ns m := wtI_get ns 0 k x h (by rw [Nat.zero_add]; exact hb)
theorem wtI_le {m step c : Nat} : ∀ (ns : List Nat) (i : Nat), (∀ k x, ns[k]? = some x → m.testBit (i + k) = true → x * step ≤ c) → wtI i ns m * step ≤ ns.length * c
  | [], _, _ => by simp [wtI]
  | y :: ys, i, h => by
    have ih := wtI_le (m := m) (step := step) (c := c) ys (i + 1) (fun k x hk hb => h (k + 1) x (by simpa using hk) (by rw [show i + (k + 1) = i + 1 + k from by omega]; exact hb))
    have h0 : (if m.testBit i = true then y else 0) * step ≤ c := by
      split
      · rename_i q
        exact h 0 y rfl q
      · simp
    show ((if m.testBit i = true then y else 0) + wtI (i + 1) ys m) * step ≤ (ys.length + 1) * c
    rw [Nat.add_mul, Nat.add_mul]
    omega
theorem wt_le {m step c : Nat} {ns : List Nat} (h : ∀ k x, ns[k]? = some x → m.testBit k = true → x * step ≤ c) : wt ns m * step ≤ ns.length * c := wtI_le ns 0 fun k x hk hb => h k x hk (by rw [Nat.zero_add] at hb; exact hb)
/-- every weight at most b -/
theorem wt_bound {m b : Nat} {ns : List Nat} (h : ∀ x ∈ ns, x ≤ b) : wt ns m ≤ ns.length * b := by
  have := wt_le (m := m) (step := 1) (c := b) (ns := ns) fun k x hk _ => by rw [Nat.mul_one]; exact h x (List.mem_of_getElem? hk)
  rw [Nat.mul_one] at this
  exact this
theorem wtI_append {m : Nat} : ∀ (xs ys : List Nat) (i : Nat), wtI i (xs ++ ys) m = wtI i xs m + wtI (i + xs.length) ys m
  | [], ys, i => by simp [wtI]
  | x :: xs, ys, i => by
    simp only [List.cons_append, wtI, wtI_append xs ys (i + 1), List.length_cons]
    rw [show i + 1 + xs.length = i + (xs.length + 1) from by omega]
    omega
/-- the picked weights, one a day -/
def pick (ns : List Nat) (m : Nat) : List Nat := fm (fun i x => some (x * (m / 2 ^ i % 2))) ns
theorem pickI_sum {m : Nat} : ∀ (ns : List Nat) (i : Nat), (fmI (fun i x => some (x * (m / 2 ^ i % 2))) i ns).sum = wtI i ns m
  | [], _ => rfl
  | x :: xs, i => by
    show ([x * (m / 2 ^ i % 2)] ++ _).sum = (if m.testBit i = true then x else 0) + _
    rw [List.singleton_append, List.sum_cons, pickI_sum xs]
    have e : m.testBit i = decide (m / 2 ^ i % 2 = 1) := Nat.testBit_eq_decide_div_mod_eq
    rw [e]
    have h2 : m / 2 ^ i % 2 = 0 ∨ m / 2 ^ i % 2 = 1 := by omega
    rcases h2 with h2 | h2 <;> rw [h2] <;> simp
theorem pick_sum (ns : List Nat) (m : Nat) : (pick ns m).sum = wt ns m := pickI_sum ns 0
/-- the law's: the numbers of the days of a mask -/
def pickL (ns : List Nat) (m : Nat) : List Nat := fm (fun i x => if m.testBit i = true then some x else none) ns
theorem pickLI_sum {m : Nat} : ∀ (ns : List Nat) (i : Nat), (fmI (fun i x => if m.testBit i = true then some x else none) i ns).sum = wtI i ns m
  | [], _ => rfl
  | x :: xs, i => by
    show ((if m.testBit i = true then some x else none).toList ++ _).sum = (if m.testBit i = true then x else 0) + _
    rw [List.sum_append, pickLI_sum xs]
    split <;> simp
theorem pickL_sum (ns : List Nat) (m : Nat) : (pickL ns m).sum = wt ns m := pickLI_sum ns 0

/-! ### ratios -/
abbrev F := Nat × Nat
def norm (t u : Nat) : F := (t / Nat.gcd t u, u / Nat.gcd t u)
theorem norm_spec {t u : Nat} (hu : 0 < u) : ∃ g, 0 < g ∧ t = (norm t u).1 * g ∧ u = (norm t u).2 * g := by
  have hg : 0 < Nat.gcd t u := Nat.gcd_pos_of_pos_right _ hu
  exact ⟨Nat.gcd t u, hg, (Nat.div_mul_cancel (Nat.gcd_dvd_left t u)).symm, (Nat.div_mul_cancel (Nat.gcd_dvd_right t u)).symm⟩
theorem norm_pos {t u : Nat} (hu : 0 < u) : 0 < (norm t u).2 := by
  obtain ⟨g, hg, _, e⟩ := norm_spec (t := t) hu
  apply Nat.pos_of_ne_zero
  intro z
  rw [z, Nat.zero_mul] at e
  omega
theorem norm_le1 (t u : Nat) : (norm t u).1 ≤ t := Nat.div_le_self _ _
theorem norm_le2 (t u : Nat) : (norm t u).2 ≤ u := Nat.div_le_self _ _
/-- a comparison with a fixed ratio, kept by norm -/
theorem norm_ge {t u a b : Nat} (hu : 0 < u) : a * u ≤ b * t ↔ a * (norm t u).2 ≤ b * (norm t u).1 := by
  obtain ⟨g, hg, e1, e2⟩ := norm_spec (t := t) hu
  constructor
  · intro h
    have h2 : a * ((norm t u).2 * g) ≤ b * ((norm t u).1 * g) := by rw [← e1, ← e2]; exact h
    rw [← Nat.mul_assoc, ← Nat.mul_assoc] at h2
    exact Nat.le_of_mul_le_mul_right h2 hg
  · intro h
    have h2 := Nat.mul_le_mul_right g h
    rw [Nat.mul_assoc, Nat.mul_assoc, ← e1, ← e2] at h2
    exact h2
theorem norm_le {t u a b : Nat} (hu : 0 < u) : b * t ≤ a * u ↔ b * (norm t u).1 ≤ a * (norm t u).2 := by
  obtain ⟨g, hg, e1, e2⟩ := norm_spec (t := t) hu
  constructor
  · intro h
    have h2 : b * ((norm t u).1 * g) ≤ a * ((norm t u).2 * g) := by rw [← e1, ← e2]; exact h
    rw [← Nat.mul_assoc, ← Nat.mul_assoc] at h2
    exact Nat.le_of_mul_le_mul_right h2 hg
  · intro h
    have h2 := Nat.mul_le_mul_right g h
    rw [Nat.mul_assoc, Nat.mul_assoc, ← e1, ← e2] at h2
    exact h2
def dbt (ns : List Nat) (p : P) : F := if wt ns p.2 + wt ns p.1 = 0 then (0, 1) else norm (wt ns p.2) (wt ns p.2 + wt ns p.1)
def addF (t d : F) : F := norm (d.1 * t.2 + t.1 * d.2) (d.2 * t.2)
def sumF (ns : List Nat) (ps : List P) : F := ps.foldl (fun t p => addF t (dbt ns p)) (0, 1)
theorem sumF_snoc (ns : List Nat) (ps : List P) (p : P) : sumF ns (ps ++ [p]) = addF (sumF ns ps) (dbt ns p) := by
  unfold sumF
  rw [List.foldl_append]
  rfl
def above (a b : F) : Bool := decide (b.1 * a.2 < a.1 * b.2)
theorem dbt_pos (ns : List Nat) (p : P) : 0 < (dbt ns p).2 := by
  unfold dbt
  split
  · exact Nat.one_pos
  · exact norm_pos (by omega)
theorem dbt_le1 (ns : List Nat) (p : P) : (dbt ns p).1 ≤ (dbt ns p).2 := by
  unfold dbt
  split
  · exact Nat.zero_le _
  · have := (norm_le (t := wt ns p.2) (u := wt ns p.2 + wt ns p.1) (a := 1) (b := 1) (by omega)).mp (by omega)
    omega
theorem dbt_le2 (ns : List Nat) (p : P) : (dbt ns p).2 ≤ 1 + (wt ns p.2 + wt ns p.1) := by
  unfold dbt
  split
  · exact Nat.le_add_right _ _
  · exact Nat.le_trans (norm_le2 _ _) (by omega)
theorem addF_pos {t d : F} (h1 : 0 < t.2) (h2 : 0 < d.2) : 0 < (addF t d).2 := norm_pos (Nat.mul_pos h2 h1)
theorem sumF_pos (ns : List Nat) : ∀ ps : List P, 0 < (sumF ns ps).2 := by
  have : ∀ (ps : List P) (t : F), 0 < t.2 → 0 < (ps.foldl (fun t p => addF t (dbt ns p)) t).2 := by
    intro ps
    induction ps with
    | nil => intro t h; exact h
    | cons p r ih => intro t h; exact ih _ (addF_pos h (dbt_pos ns p))
  intro ps
  exact this ps (0, 1) Nat.one_pos
/-- sizes of the sum -/
theorem sumF_size {ns : List Nat} {B : Nat} (hB : ∀ m, wt ns m ≤ B) : ∀ (ps : List P), (sumF ns ps).2 ≤ (1 + 2 * B) ^ ps.length ∧ (sumF ns ps).1 ≤ ps.length * (1 + 2 * B) ^ ps.length := by
  have key : ∀ (ps : List P) (t : F) (k : Nat), t.2 ≤ (1 + 2 * B) ^ k → t.1 ≤ k * (1 + 2 * B) ^ k →
      (ps.foldl (fun t p => addF t (dbt ns p)) t).2 ≤ (1 + 2 * B) ^ (k + ps.length) ∧ (ps.foldl (fun t p => addF t (dbt ns p)) t).1 ≤ (k + ps.length) * (1 + 2 * B) ^ (k + ps.length) := by
    intro ps
    induction ps with
    | nil => intro t k h1 h2; exact ⟨h1, h2⟩
    | cons p r ih =>
      intro t k h1 h2
      have d2 : (dbt ns p).2 ≤ 1 + 2 * B := by
        have := dbt_le2 ns p
        have := hB p.1
        have := hB p.2
        omega
      have d1 : (dbt ns p).1 ≤ 1 + 2 * B := Nat.le_trans (dbt_le1 ns p) d2
      have := ih (addF t (dbt ns p)) (k + 1) (by
        refine Nat.le_trans (norm_le2 _ _) ?_
        rw [Nat.pow_succ, Nat.mul_comm]
        exact Nat.mul_le_mul h1 d2) (by
        refine Nat.le_trans (norm_le1 _ _) ?_
        have e1 : (dbt ns p).1 * t.2 ≤ (1 + 2 * B) * (1 + 2 * B) ^ k := Nat.mul_le_mul d1 h1
        have e2 : t.1 * (dbt ns p).2 ≤ (k * (1 + 2 * B) ^ k) * (1 + 2 * B) := Nat.mul_le_mul h2 d2
        have e3 : (k + 1) * (1 + 2 * B) ^ (k + 1) = (1 + 2 * B) * (1 + 2 * B) ^ k + (k * (1 + 2 * B) ^ k) * (1 + 2 * B) := by
          rw [Nat.pow_succ, Nat.add_mul, Nat.one_mul, Nat.mul_comm (1 + 2 * B) ((1 + 2 * B) ^ k), Nat.mul_assoc, Nat.add_comm]
        omega)
      rw [show k + (p :: r).length = k + 1 + r.length from by rw [List.length_cons]; omega]
      exact this
  intro ps
  have := key ps (0, 1) 0 (by simp) (by simp)
  rw [Nat.zero_add] at this
  exact this

/-! ### the law of the bounded: a sharp lot's doubts bound the saying's -/
theorem sum_ge {ns : List Nat} {T : Nat} : ∀ ps : List P, (∀ p ∈ ps, wt ns p.2 + wt ns p.1 ≤ T) → ∀ (t : F) (b : Nat), 0 < t.2 → b * t.2 ≤ T * t.1 →
    (b + (ps.map fun p => wt ns p.2).sum) * (ps.foldl (fun t p => addF t (dbt ns p)) t).2 ≤ T * (ps.foldl (fun t p => addF t (dbt ns p)) t).1 := by
  intro ps
  induction ps with
  | nil => intro _ t b _ h; simpa using h
  | cons p r ih =>
    intro hT t b ht h
    have hp := hT p List.mem_cons_self
    have hd := dbt_pos ns p
    have dl : wt ns p.2 * (dbt ns p).2 ≤ T * (dbt ns p).1 := by
      unfold dbt
      split
      · have : wt ns p.2 = 0 := by omega
        rw [this]; simp
      · exact (norm_ge (by omega)).mp (by
          rw [Nat.mul_comm (wt ns p.2)]
          exact Nat.mul_le_mul_right _ hp)
    have st : (b + wt ns p.2) * (addF t (dbt ns p)).2 ≤ T * (addF t (dbt ns p)).1 := by
      refine (norm_ge (Nat.mul_pos hd ht)).mp ?_
      have e1 : b * t.2 * (dbt ns p).2 ≤ T * t.1 * (dbt ns p).2 := Nat.mul_le_mul_right _ h
      have e2 : wt ns p.2 * (dbt ns p).2 * t.2 ≤ T * (dbt ns p).1 * t.2 := Nat.mul_le_mul_right _ dl
      have e3 : (b + wt ns p.2) * ((dbt ns p).2 * t.2) = b * t.2 * (dbt ns p).2 + wt ns p.2 * (dbt ns p).2 * t.2 := by
        rw [Nat.add_mul]; ac_rfl
      have e4 : T * ((dbt ns p).1 * t.2 + t.1 * (dbt ns p).2) = T * t.1 * (dbt ns p).2 + T * (dbt ns p).1 * t.2 := by
        rw [Nat.mul_add]; ac_rfl
      omega
    have := ih (fun q hq => hT q (List.mem_cons_of_mem _ hq)) (addF t (dbt ns p)) (b + wt ns p.2) (addF_pos ht hd) st
    rw [List.map_cons, List.sum_cons, ← Nat.add_assoc]
    exact this
theorem orB_wt (ns : List Nat) : ∀ L : List P, wt ns (orB L) ≤ (L.map fun p => wt ns p.2).sum
  | [] => by simp [orB, wt_zero]
  | p :: r => by
    have ih := orB_wt ns r
    have := wt_or ns p.2 (orB r)
    rw [List.map_cons, List.sum_cons ]
    show wt ns (p.2 ||| orB r) ≤ _
    omega
theorem dif_dis (a b : Nat) : Dis (dif a b, b) := fun i h1 h2 => by
  rw [tb_dif, h2] at h1
  simp at h1
theorem bounded_law {ns : List Nat} {L : List P} {s : P} (h : Sharp L s) (hd : ∀ p ∈ L, Dis p) : above (dbt ns s) (sumF ns L) = false := by
  have hTe : wt ns (dif (orC L) (orB L) ||| orB L) = wt ns (dif (orC L) (orB L)) + wt ns (orB L) := wt_dis (p := (dif (orC L) (orB L), orB L)) (dif_dis _ _) ns
  generalize hT : wt ns (dif (orC L) (orB L) ||| orB L) = T at hTe
  have hp : ∀ p ∈ L, wt ns p.2 + wt ns p.1 ≤ T := fun p hpL => by
    rw [Nat.add_comm, ← wt_dis (hd p hpL), ← hT]
    refine wt_mono (fun i hi => ?_) ns
    rw [Nat.testBit_or, Bool.or_eq_true] at hi ⊢
    by_cases q : (orB L).testBit i = true
    · exact .inr q
    · rcases hi with hi | hi
      · left
        rw [tb_dif, tb_orC.mpr ⟨p, hpL, hi⟩]
        cases e : (orB L).testBit i with
        | true => exact absurd e q
        | false => rfl
      · exact absurd (tb_orB.mpr ⟨p, hpL, hi⟩) q
  have g := sum_ge L hp (0, 1) 0 Nat.one_pos (by simp)
  rw [Nat.zero_add] at g
  have g' : wt ns (orB L) * (sumF ns L).2 ≤ T * (sumF ns L).1 := Nat.le_trans (Nat.mul_le_mul_right _ (orB_wt ns L)) g
  have hc : wt ns (dif (orC L) (orB L)) ≤ wt ns s.1 := wt_mono h.1 ns
  have hb : wt ns s.2 ≤ wt ns (orB L) := wt_mono h.2 ns
  have hu := sumF_pos ns L
  unfold above
  refine decide_eq_false (Nat.not_lt.mpr ?_)
  unfold dbt
  split
  · simp
  · rename_i hne
    have hw : 0 < wt ns s.2 + wt ns s.1 := by omega
    -- s.2 * u ≤ t * (s.2 + s.1)
    have main : (sumF ns L).2 * wt ns s.2 ≤ (sumF ns L).1 * (wt ns s.2 + wt ns s.1) := by
      by_cases hT0 : T = 0
      · have : wt ns s.2 = 0 := by omega
        rw [this]; simp
      · have hTp : 0 < T := by omega
        refine Nat.le_of_mul_le_mul_left (c := T) ?_ hTp
        have e1 : T * wt ns s.2 ≤ wt ns (orB L) * (wt ns s.2 + wt ns s.1) := by
          rw [hTe, Nat.add_mul, Nat.mul_add]
          have a1 : wt ns (dif (orC L) (orB L)) * wt ns s.2 ≤ wt ns (orB L) * wt ns s.1 := by
            rw [Nat.mul_comm]
            exact Nat.mul_le_mul hb hc
          omega
        have e2 : T * ((sumF ns L).2 * wt ns s.2) = (T * wt ns s.2) * (sumF ns L).2 := by ac_rfl
        have e3 : T * ((sumF ns L).1 * (wt ns s.2 + wt ns s.1)) = (T * (sumF ns L).1) * (wt ns s.2 + wt ns s.1) := by ac_rfl
        rw [e2, e3]
        refine Nat.le_trans (Nat.mul_le_mul_right _ e1) ?_
        rw [show wt ns (orB L) * (wt ns s.2 + wt ns s.1) * (sumF ns L).2 = wt ns (orB L) * (sumF ns L).2 * (wt ns s.2 + wt ns s.1) from by ac_rfl]
        exact Nat.mul_le_mul_right _ g'
    have := (norm_le (t := wt ns s.2) (u := wt ns s.2 + wt ns s.1) (a := (sumF ns L).1) (b := (sumF ns L).2) hw).mp main
    rw [Nat.mul_comm] at this
    exact this

/-! ### the law of the exceeding -/
theorem small_dbt {ns : List Nat} {p : P} {M : Nat} (h : M * wt ns p.2 ≤ wt ns p.1) : M * (dbt ns p).1 ≤ (dbt ns p).2 := by
  unfold dbt
  split
  · simp
  · rename_i hne
    have := (norm_le (t := wt ns p.2) (u := wt ns p.2 + wt ns p.1) (a := 1) (b := M) (by omega)).mp (by omega)
    omega
theorem great_dbt {ns : List Nat} {p : P} {M : Nat} (h : M * wt ns p.1 ≤ wt ns p.2) (h0 : 0 < wt ns p.2) : M * (dbt ns p).2 ≤ (M + 1) * (dbt ns p).1 := by
  unfold dbt
  split
  · omega
  · exact (norm_ge (by omega)).mp (by
      rw [Nat.mul_add, Nat.add_mul]
      omega)
theorem sum_le {ns : List Nat} {M : Nat} : ∀ ps : List P, (∀ p ∈ ps, M * (dbt ns p).1 ≤ (dbt ns p).2) → ∀ (t : F) (k : Nat), 0 < t.2 → M * t.1 ≤ k * t.2 →
    M * (ps.foldl (fun t p => addF t (dbt ns p)) t).1 ≤ (k + ps.length) * (ps.foldl (fun t p => addF t (dbt ns p)) t).2 := by
  intro ps
  induction ps with
  | nil => intro _ t k _ h; exact h
  | cons p r ih =>
    intro hM t k ht h
    have hp := hM p List.mem_cons_self
    have hd := dbt_pos ns p
    have st : M * (addF t (dbt ns p)).1 ≤ (k + 1) * (addF t (dbt ns p)).2 := by
      refine (norm_le (Nat.mul_pos hd ht)).mp ?_
      have e1 : M * t.1 * (dbt ns p).2 ≤ k * t.2 * (dbt ns p).2 := Nat.mul_le_mul_right _ h
      have e2 : M * (dbt ns p).1 * t.2 ≤ (dbt ns p).2 * t.2 := Nat.mul_le_mul_right _ hp
      have e3 : M * ((dbt ns p).1 * t.2 + t.1 * (dbt ns p).2) = M * (dbt ns p).1 * t.2 + M * t.1 * (dbt ns p).2 := by
        rw [Nat.mul_add]; ac_rfl
      have e4 : (k + 1) * ((dbt ns p).2 * t.2) = k * t.2 * (dbt ns p).2 + (dbt ns p).2 * t.2 := by
        rw [Nat.add_mul, Nat.one_mul]; ac_rfl
      omega
    have := ih (fun q hq => hM q (List.mem_cons_of_mem _ hq)) (addF t (dbt ns p)) (k + 1) (addF_pos ht hd) st
    rw [show k + (p :: r).length = k + 1 + r.length from by rw [List.length_cons]; omega]
    exact this
theorem exceeds_law {ns : List Nat} {ps : List P} {s : P} {M : Nat} (hM : 2 * ps.length + 2 ≤ M) (h : ∀ p ∈ ps, M * wt ns p.2 ≤ wt ns p.1) (hs : M * wt ns s.1 ≤ wt ns s.2) (h0 : 0 < wt ns s.2) : above (dbt ns s) (sumF ns ps) = true := by
  have g := sum_le ps (fun p hp => small_dbt (h p hp)) (0, 1) 0 Nat.one_pos (by simp)
  rw [Nat.zero_add] at g
  have g' : M * (sumF ns ps).1 ≤ ps.length * (sumF ns ps).2 := g
  have d := great_dbt hs h0
  have hu := sumF_pos ns ps
  have hdp := dbt_pos ns s
  unfold above
  refine decide_eq_true ?_
  clear g
  generalize (sumF ns ps).1 = t at *
  generalize (sumF ns ps).2 = u at *
  generalize (dbt ns s).1 = x at *
  generalize (dbt ns s).2 = y at *
  generalize ps.length = n at *
  have hx : 0 < x := by
    apply Nat.pos_of_ne_zero
    intro z
    subst z
    have : 0 < M * y := Nat.mul_pos (by omega) hdp
    omega
  -- t y M M ≤ n u (M+1) x < M M u x
  refine Nat.lt_of_mul_lt_mul_left (a := M * M) ?_
  have e1 : M * M * (t * y) = (M * t) * (M * y) := by ac_rfl
  have e2 : (M * t) * (M * y) ≤ (n * u) * ((M + 1) * x) := Nat.mul_le_mul g' d
  have e3 : (n * u) * ((M + 1) * x) = (n * (M + 1)) * (u * x) := by ac_rfl
  have e4 : M * M * (x * u) = (M * M) * (u * x) := by ac_rfl
  have e5 : n * (M + 1) < M * M := by
    have q1 : 2 * (n * (M + 1)) ≤ (M - 2) * (M + 1) := by
      rw [← Nat.mul_assoc]
      exact (Nat.mul_le_mul_right _ (by omega))
    obtain ⟨k, rfl⟩ : ∃ k, M = k + 2 := ⟨M - 2, by omega⟩
    rw [show k + 2 - 2 = k from by omega] at q1
    have q2 : k * (k + 2 + 1) = k * k + 3 * k := by rw [show k + 2 + 1 = k + 3 from rfl, Nat.mul_add]; omega
    have q3 : (k + 2) * (k + 2) = k * k + 4 * k + 4 := by rw [Nat.add_mul, Nat.mul_add]; omega
    omega
  rw [e1, e4]
  refine Nat.lt_of_le_of_lt e2 ?_
  rw [e3]
  exact Nat.mul_lt_mul_of_pos_right e5 (Nat.mul_pos hu hx)
theorem part_small {ns : List Nat} {p : P} {M q : Nat} (h : M * wt ns p.2 ≤ wt ns p.1) (hq : q ≤ M) : above (dbt ns p) (1, q) = false := by
  have := small_dbt h
  unfold above
  refine decide_eq_false (Nat.not_lt.mpr ?_)
  have e : (dbt ns p).1 * q ≤ M * (dbt ns p).1 := by rw [Nat.mul_comm]; exact Nat.mul_le_mul_right _ hq
  show (dbt ns p).1 * q ≤ 1 * (dbt ns p).2
  omega
theorem part_great {ns : List Nat} {p : P} {M q : Nat} (h : M * wt ns p.1 ≤ wt ns p.2) (h0 : 0 < wt ns p.2) (hq : q ≤ M) (hq1 : 1 ≤ q) : above (q - 1, q) (dbt ns p) = false := by
  have d := great_dbt h h0
  unfold above
  refine decide_eq_false (Nat.not_lt.mpr ?_)
  show (q - 1) * (dbt ns p).2 ≤ (dbt ns p).1 * q
  generalize (dbt ns p).1 = x at *
  generalize (dbt ns p).2 = y at *
  obtain ⟨r, rfl⟩ : ∃ r, q = r + 1 := ⟨q - 1, by omega⟩
  obtain ⟨k, rfl⟩ : ∃ k, M = r + 1 + k := ⟨M - (r + 1), by omega⟩
  rw [show r + 1 - 1 = r from by omega]
  -- r y ≤ x (r + 1)
  refine Nat.le_of_mul_le_mul_left (c := r + 1 + k) ?_ (by omega)
  have e1 : (r + 1 + k) * (r * y) = r * ((r + 1 + k) * y) := by ac_rfl
  have e2 : r * ((r + 1 + k) * y) ≤ r * ((r + 1 + k + 1) * x) := Nat.mul_le_mul_left _ d
  have e3 : r * ((r + 1 + k + 1) * x) ≤ (r + 1 + k) * (x * (r + 1)) := by
    rw [← Nat.mul_assoc, Nat.mul_comm x, ← Nat.mul_assoc]
    refine Nat.mul_le_mul_right _ ?_
    rw [show r + 1 + k + 1 = (r + 1 + k) + 1 from rfl, Nat.mul_add, Nat.mul_add (r + 1 + k) r 1, Nat.mul_comm r (r + 1 + k)]
    omega
  rw [e1]
  exact Nat.le_trans e2 e3

/-! ### big steps -/
structure Steps (l : Lay) (step : Nat) (ns : List Nat) : Prop where
  len : ns.length = l.length
  zero : ∀ d x, ns[d]? = some x → lay l d = none → x = 0
  pos : ∀ d x v, ns[d]? = some x → lay l d = some v → 0 < x
  le : ∀ d e x y u v, ns[d]? = some x → ns[e]? = some y → lay l d = some u → lay l e = some v → v < u → x * step ≤ y
theorem steps_row {rows : List Row} {l : Lay} {step : Nat} {ns : List Nat} (S : Steps l step ns) (A : SoundA rows l) (h1 : Step1 rows) {r : Row} (hr : r ∈ rows) : wt ns r.2.1 * step ≤ l.length * wt ns r.1 := by
  rw [← S.len]
  refine wt_le fun d x hx hb => ?_
  cases e : lay l d with
  | none => rw [S.zero d x hx e]; simp
  | some v =>
    obtain ⟨e1, u, h2, h3, h4⟩ := A d v e r hr hb
    have := h1 r hr
    have hlt : e1 < ns.length := by rw [S.len]; exact lay_lt h3
    have hy : ns[e1]? = some ns[e1] := List.getElem?_eq_getElem hlt
    exact Nat.le_trans (S.le d e1 x _ v u hx hy e h3 (by omega)) (wt_get hy h2)
theorem steps_rowM {rows : List Row} {l : Lay} {M : Nat} {ns : List Nat} (S : Steps l (l.length * M) ns) (A : SoundA rows l) (h1 : Step1 rows) (hl : 0 < l.length) {r : Row} (hr : r ∈ rows) : M * wt ns r.2.1 ≤ wt ns r.1 := by
  have := steps_row S A h1 hr
  rw [show wt ns r.2.1 * (l.length * M) = l.length * (M * wt ns r.2.1) from by ac_rfl] at this
  exact Nat.le_of_mul_le_mul_left this hl
theorem steps_pos {l : Lay} {step : Nat} {ns : List Nat} (S : Steps l step ns) {m E : Nat} (hE : EndOf l E) (hm : m < 2 ^ l.length) (h : ¬ Sub m E) : 0 < wt ns m := by
  obtain ⟨x, hx1, hx2⟩ : ∃ x, m.testBit x = true ∧ E.testBit x ≠ true := by
    apply Classical.byContradiction
    intro no
    exact h fun x hx => Classical.byContradiction fun q => no ⟨x, hx, q⟩
  have xl := lt_of_tb hm hx1
  cases e : lay l x with
  | none => exact absurd ((hE x).mpr ⟨xl, e⟩) hx2
  | some u =>
    have hlt : x < ns.length := by rw [S.len]; exact xl
    have hy : ns[x]? = some ns[x] := List.getElem?_eq_getElem hlt
    exact Nat.lt_of_lt_of_le (S.pos x _ u hy e) (wt_get hy hx1)
end UM
set_option maxHeartbeats 4100000
namespace U
open PySem L2 He
/-! ### the text by places -/
def top (i : Nat) : Stmt := PySem.Challenge.pw_usualdays_k46_whole_sums_of_doubts_for_a.main.body.getD i (.Pass ⟨0, 0, 0, 0⟩)
/-- what isinstance asks of a class of the text -/
structure ICls (K : PySem.W.Frag) (C : Addr) : Prop where
  ca : PySem.W.findIn K (Value.ref C) "__class__" = some (some (.builtin "object.__class__"))
  cn : PySem.W.specialIn K (Value.builtin "object.__class__") "__get__" = some (some (.builtin "getset_descriptor.__get__"))
  ct : PySem.W.takesIn K (Value.builtin "object.__class__") = some true
  cm : PySem.W.mroIn K C (Value.type "object") = some true
structure Txt (K : PySem.W.Frag) (mg : Str → Option Value) : Prop where
  b_len : mg "len" = none
  b_isinstance : mg "isinstance" = none
  b_int : mg "int" = none
  b_bool : mg "bool" = none
  b_str : mg "str" = none
  b_list : mg "list" = none
  b_tuple : mg "tuple" = none
  b_enumerate : mg "enumerate" = none
  b_range : mg "range" = none
  b_sum : mg "sum" = none
  b_min : mg "min" = none
  b_max : mg "max" = none
  b_sorted : mg "sorted" = none
  b_reversed : mg "reversed" = none
  b_set : mg "set" = none
  b_abs : mg "abs" = none
  b_iter : mg "iter" = none
  g_gcd : mg "gcd" = some (.builtin "math.gcd")
  c_HIGHEST : ∃ t, mg "HIGHEST" = some (.int 1000000000000000000000000000000 t)
  c_ALL_BITS : ∃ t, mg "ALL_BITS" = some (.int 65535 t)
  c_LAST_DAY : ∃ t, mg "LAST_DAY" = some (.int 15 t)
  c_MOST_PARTS : ∃ t, mg "MOST_PARTS" = some (.int 1000000 t)
  c_MOST_MARKS : ∃ t, mg "MOST_MARKS" = some (.int 4 t)
  c_LONGEST_NAME : ∃ t, mg "LONGEST_NAME" = some (.int 8 t)
  c_MOST_SAYINGS : ∃ t, mg "MOST_SAYINGS" = some (.int 12 t)
  c_LETTERS : ∃ t, mg "LETTERS" = some (.str "abcdefghijklmnopqrstuvwxyz" t)
  g_SIZES : mg "SIZES" = some (.ref (ga K "SIZES"))
  t_SIZES : ∀ H, SqT K H (ga K "SIZES") [.int 2, .int 4, .int 8, .int 16]
  g_COUNTS : mg "COUNTS" = some (.ref (ga K "COUNTS"))
  t_COUNTS : ∀ H, SqT K H (ga K "COUNTS") [.int 2, .int 4, .int 8, .int 16]
  g_KEPT_WORDS : mg "KEPT_WORDS" = some (.ref (ga K "KEPT_WORDS"))
  t_KEPT_WORDS : ∀ H, SqT K H (ga K "KEPT_WORDS") [.str "and", .str "any", .str "marks", .str "need", .str "never", .str "not", .str "or", .str "usually", .str "where"]
  g_set_of : mg "set_of" = some (.ref (ga K "set_of"))
  d_set_of : ∃ fd, Fun K "set_of" "set_of" (top 4) (ga K "set_of") fd
  g_within : mg "within" = some (.ref (ga K "within"))
  d_within : ∃ fd, Fun K "within" "within" (top 5) (ga K "within") fd
  g_is_whole : mg "is_whole" = some (.ref (ga K "is_whole"))
  d_is_whole : ∃ fd, Fun K "is_whole" "is_whole" (top 24) (ga K "is_whole") fd
  g_ratio : mg "ratio" = some (.ref (ga K "ratio"))
  d_ratio : ∃ fd, Fun K "ratio" "ratio" (top 25) (ga K "ratio") fd
  g_compare_ratios : mg "compare_ratios" = some (.ref (ga K "compare_ratios"))
  d_compare_ratios : ∃ fd, Fun K "compare_ratios" "compare_ratios" (top 26) (ga K "compare_ratios") fd
  g_ratio_sum : mg "ratio_sum" = some (.ref (ga K "ratio_sum"))
  d_ratio_sum : ∃ fd, Fun K "ratio_sum" "ratio_sum" (top 27) (ga K "ratio_sum") fd
  g_check_days_doubts : mg "check_days_doubts" = some (.ref (ga K "check_days_doubts"))
  d_check_days_doubts : ∃ fd, Fun K "check_days" "check_days" (top 29) (ga K "check_days_doubts") fd
  g_check_usual : mg "check_usual" = some (.ref (ga K "check_usual"))
  d_check_usual : ∃ fd, Fun K "check_usual" "check_usual" (top 31) (ga K "check_usual") fd
  g_plain_doubt : mg "plain_doubt" = some (.ref (ga K "plain_doubt"))
  d_plain_doubt : ∃ fd, Fun K "plain_doubt" "plain_doubt" (top 32) (ga K "plain_doubt") fd
  g_doubts_of : mg "doubts_of" = some (.ref (ga K "doubts_of"))
  d_doubts_of : ∃ fd, Fun K "doubts_of" "doubts_of" (top 33) (ga K "doubts_of") fd
  g_doubt_sum : mg "doubt_sum" = some (.ref (ga K "doubt_sum"))
  d_doubt_sum : ∃ fd, Fun K "doubt_sum" "doubt_sum" (top 34) (ga K "doubt_sum") fd
  g_is_weight : mg "is_weight" = some (.ref (ga K "is_weight"))
  d_is_weight : ∃ fd, Fun K "is_weight" "is_weight" (top 37) (ga K "is_weight") fd
  g_check_asked : mg "check_asked" = some (.ref (ga K "check_asked"))
  d_check_asked : ∃ fd, Fun K "check_asked" "check_asked" (top 40) (ga K "check_asked") fd
  g_checked_layers : mg "checked_layers" = some (.ref (ga K "checked_layers"))
  d_checked_layers : ∃ fd, Fun K "checked_layers" "checked_layers" (top 44) (ga K "checked_layers") fd
  g_all_sayings : mg "all_sayings" = some (.ref (ga K "all_sayings"))
  d_all_sayings : ∃ fd, Fun K "all_sayings" "all_sayings" (top 53) (ga K "all_sayings") fd
  g_first_reason : mg "first_reason" = some (.ref (ga K "first_reason"))
  d_first_reason : ∃ fd, Fun K "first_reason" "first_reason" (top 54) (ga K "first_reason") fd
  g_lifting_of : mg "lifting_of" = some (.ref (ga K "lifting_of"))
  d_lifting_of : ∃ fd, Fun K "lifting_of" "lifting_of" (top 56) (ga K "lifting_of") fd
  g_lift : mg "lift" = some (.ref (ga K "lift"))
  d_lift : ∃ fd, Fun K "lift" "lift" (top 57) (ga K "lift") fd
  g_lifted_layers : mg "lifted_layers" = some (.ref (ga K "lifted_layers"))
  d_lifted_layers : ∃ fd, FunD K "lifted_layers" "lifted_layers" (defArgs (top 58)) (defBody (top 58)) (defScope (top 58)) [] [("start", .non)] (ga K "lifted_layers") fd
  g_big_steps : mg "big_steps" = some (.ref (ga K "big_steps"))
  d_big_steps : ∃ fd, Fun K "big_steps" "big_steps" (top 60) (ga K "big_steps") fd
  g_verdicts_of : mg "verdicts_of" = some (.ref (ga K "verdicts_of"))
  d_verdicts_of : ∃ fd, Fun K "verdicts_of" "verdicts_of" (top 67) (ga K "verdicts_of") fd
  g_joined : mg "joined" = some (.ref (ga K "joined"))
  d_joined : ∃ fd, Fun K "joined" "joined" (top 68) (ga K "joined") fd
  g_sharper : mg "sharper" = some (.ref (ga K "sharper"))
  d_sharper : ∃ fd, Fun K "sharper" "sharper" (top 69) (ga K "sharper") fd
  g_sum_bound : mg "sum_bound" = some (.ref (ga K "sum_bound"))
  d_sum_bound : ∃ fd, FunD K "sum_bound" "sum_bound" (defArgs (top 74)) (defBody (top 74)) (defScope (top 74)) [] [("parts", .int 2)] (ga K "sum_bound") fd
  g_sum_fault : mg "sum_fault" = some (.ref (ga K "sum_fault"))
  d_sum_fault : ∃ fd, Fun K "sum_fault" "sum_fault" (top 75) (ga K "sum_fault") fd
  g_name_fault : mg "name_fault" = some (.ref (ga K "name_fault"))
  d_name_fault : ∃ fd, Fun K "name_fault" "name_fault" (top 81) (ga K "name_fault") fd
  g_check_saying_days : mg "check_saying_days" = some (.ref (ga K "check_saying_days"))
  d_check_saying_days : ∃ fd, Fun K "check_saying_days" "check_saying_days" (top 90) (ga K "check_saying_days") fd
  g_tell : mg "tell" = some (.ref (ga K "tell"))
  d_tell : ∃ fd, Fun K "tell" "tell" (top 91) (ga K "tell") fd
  g_check_all_usual : mg "check_all_usual" = some (.ref (ga K "check_all_usual"))
  d_check_all_usual : ∃ fd, Fun K "check_all_usual" "check_all_usual" (top 93) (ga K "check_all_usual") fd
  g_is_sharp : mg "is_sharp" = some (.ref (ga K "is_sharp"))
  d_is_sharp : ∃ fd, Fun K "is_sharp" "is_sharp" (top 94) (ga K "is_sharp") fd
  g_widest_lot : mg "widest_lot" = some (.ref (ga K "widest_lot"))
  d_widest_lot : ∃ fd, Fun K "widest_lot" "widest_lot" (top 95) (ga K "widest_lot") fd
  g_sharp_lot : mg "sharp_lot" = some (.ref (ga K "sharp_lot"))
  d_sharp_lot : ∃ fd, Fun K "sharp_lot" "sharp_lot" (top 96) (ga K "sharp_lot") fd
  g__law_power : mg "_law_power" = some (.ref (ga K "_law_power"))
  d_law_power : ∃ fd, Fun K "_law_power" "_law_power" (top 98) (ga K "_law_power") fd
  g__law_well : mg "_law_well" = some (.ref (ga K "_law_well"))
  d_law_well : ∃ fd, Fun K "_law_well" "_law_well" (top 99) (ga K "_law_well") fd
  g__law_drawn : mg "_law_drawn" = some (.ref (ga K "_law_drawn"))
  d_law_drawn : ∃ fd, Fun K "_law_drawn" "_law_drawn" (top 100) (ga K "_law_drawn") fd
  g__law_one_of : mg "_law_one_of" = some (.ref (ga K "_law_one_of"))
  d_law_one_of : ∃ fd, Fun K "_law_one_of" "_law_one_of" (top 101) (ga K "_law_one_of") fd
  g__law_pair : mg "_law_pair" = some (.ref (ga K "_law_pair"))
  d_law_pair : ∃ fd, Fun K "_law_pair" "_law_pair" (top 102) (ga K "_law_pair") fd
  g__law_pairs : mg "_law_pairs" = some (.ref (ga K "_law_pairs"))
  d_law_pairs : ∃ fd, Fun K "_law_pairs" "_law_pairs" (top 103) (ga K "_law_pairs") fd
  g__law_saying : mg "_law_saying" = some (.ref (ga K "_law_saying"))
  d_law_saying : ∃ fd, Fun K "_law_saying" "_law_saying" (top 104) (ga K "_law_saying") fd
  g__law_marks : mg "_law_marks" = some (.ref (ga K "_law_marks"))
  d_law_marks : ∃ fd, Fun K "_law_marks" "_law_marks" (top 105) (ga K "_law_marks") fd
  g__law_ratio : mg "_law_ratio" = some (.ref (ga K "_law_ratio"))
  d_law_ratio : ∃ fd, Fun K "_law_ratio" "_law_ratio" (top 106) (ga K "_law_ratio") fd
  g__law_weight : mg "_law_weight" = some (.ref (ga K "_law_weight"))
  d_law_weight : ∃ fd, Fun K "_law_weight" "_law_weight" (top 107) (ga K "_law_weight") fd
  g__law_doubt : mg "_law_doubt" = some (.ref (ga K "_law_doubt"))
  d_law_doubt : ∃ fd, Fun K "_law_doubt" "_law_doubt" (top 108) (ga K "_law_doubt") fd
  g__law_numbers : mg "_law_numbers" = some (.ref (ga K "_law_numbers"))
  d_law_numbers : ∃ fd, Fun K "_law_numbers" "_law_numbers" (top 109) (ga K "_law_numbers") fd
  g__law_above : mg "_law_above" = some (.ref (ga K "_law_above"))
  d_law_above : ∃ fd, Fun K "_law_above" "_law_above" (top 110) (ga K "_law_above") fd
  g__law_sum : mg "_law_sum" = some (.ref (ga K "_law_sum"))
  d_law_sum : ∃ fd, Fun K "_law_sum" "_law_sum" (top 111) (ga K "_law_sum") fd
  g__law_joined : mg "_law_joined" = some (.ref (ga K "_law_joined"))
  d_law_joined : ∃ fd, Fun K "_law_joined" "_law_joined" (top 112) (ga K "_law_joined") fd
  g__law_sharp : mg "_law_sharp" = some (.ref (ga K "_law_sharp"))
  d_law_sharp : ∃ fd, Fun K "_law_sharp" "_law_sharp" (top 113) (ga K "_law_sharp") fd
  g__law_yields : mg "_law_yields" = some (.ref (ga K "_law_yields"))
  d_law_yields : ∃ fd, Fun K "_law_yields" "_law_yields" (top 114) (ga K "_law_yields") fd
  g__law_further : mg "_law_further" = some (.ref (ga K "_law_further"))
  d_law_further : ∃ fd, Fun K "_law_further" "_law_further" (top 115) (ga K "_law_further") fd
  g__law_filled : mg "_law_filled" = some (.ref (ga K "_law_filled"))
  d_law_filled : ∃ fd, Fun K "_law_filled" "_law_filled" (top 116) (ga K "_law_filled") fd
  g__law_lot_word : mg "_law_lot_word" = some (.ref (ga K "_law_lot_word"))
  d_law_lot_word : ∃ fd, Fun K "_law_lot_word" "_law_lot_word" (top 117) (ga K "_law_lot_word") fd
  g__law_exceeds_word : mg "_law_exceeds_word" = some (.ref (ga K "_law_exceeds_word"))
  d_law_exceeds_word : ∃ fd, Fun K "_law_exceeds_word" "_law_exceeds_word" (top 118) (ga K "_law_exceeds_word") fd
  g__law_bounded_right : mg "_law_bounded_right" = some (.ref (ga K "_law_bounded_right"))
  d_law_bounded_right : ∃ fd, Fun K "_law_bounded_right" "_law_bounded_right" (top 119) (ga K "_law_bounded_right") fd
  g__law_exceeds_right : mg "_law_exceeds_right" = some (.ref (ga K "_law_exceeds_right"))
  d_law_exceeds_right : ∃ fd, Fun K "_law_exceeds_right" "_law_exceeds_right" (top 120) (ga K "_law_exceeds_right") fd
  g__law_judged : mg "_law_judged" = some (.ref (ga K "_law_judged"))
  d_law_judged : ∃ fd, Fun K "_law_judged" "_law_judged" (top 121) (ga K "_law_judged") fd
  g_law : mg "law" = some (.ref (ga K "law"))
  d_law : ∃ fd, Fun K "law" "law" (top 122) (ga K "law") fd
  g_Weights : mg "Weights" = some (.ref (ga K "Weights"))
  c_Weights : Cls K (ga K "Weights")
  mk_Weights : Mk K (ga K "Weights") (ma K (ga K "Weights") "__init__")
  f_Weights_init : ∃ fd, Fun K "__init__" "Weights.__init__" (inClass (top 38) 0) (ma K (ga K "Weights") "__init__") fd
  n_Weights_numbers : NoAttr K (ga K "Weights") "numbers"
  m_Weights_picked : Meth K (ga K "Weights") "picked" (ma K (ga K "Weights") "picked")
  f_Weights_picked : ∃ fd, Fun K "picked" "Weights.picked" (inClass (top 38) 4) (ma K (ga K "Weights") "picked") fd
  m_Weights_of : Meth K (ga K "Weights") "of" (ma K (ga K "Weights") "of")
  f_Weights_of : ∃ fd, Fun K "of" "Weights.of" (inClass (top 38) 5) (ma K (ga K "Weights") "of") fd
  m_Weights_len : Meth K (ga K "Weights") "__len__" (ma K (ga K "Weights") "__len__")
  f_Weights_len : ∃ fd, Fun K "__len__" "Weights.__len__" (inClass (top 38) 12) (ma K (ga K "Weights") "__len__") fd
  g_Order : mg "Order" = some (.ref (ga K "Order"))
  c_Order : Cls K (ga K "Order")
  mk_Order : Mk K (ga K "Order") (ma K (ga K "Order") "__init__")
  f_Order_init : ∃ fd, Fun K "__init__" "Order.__init__" (inClass (top 49) 0) (ma K (ga K "Order") "__init__") fd
  n_Order_layers : NoAttr K (ga K "Order") "layers"
  g_Lifted : mg "Lifted" = some (.ref (ga K "Lifted"))
  c_Lifted : Cls K (ga K "Lifted")
  mk_Lifted : Mk K (ga K "Lifted") (ma K (ga K "Lifted") "__init__")
  f_Lifted_init : ∃ fd, Fun K "__init__" "Lifted.__init__" (inClass (top 51) 0) (ma K (ga K "Lifted") "__init__") fd
  n_Lifted_order : NoAttr K (ga K "Lifted") "order"
  n_Lifted_reasons : NoAttr K (ga K "Lifted") "reasons"
  n_Lifted_heights : NoAttr K (ga K "Lifted") "heights"
  g_Stuck : mg "Stuck" = some (.ref (ga K "Stuck"))
  c_Stuck : Cls K (ga K "Stuck")
  mk_Stuck : Mk K (ga K "Stuck") (ma K (ga K "Stuck") "__init__")
  f_Stuck_init : ∃ fd, Fun K "__init__" "Stuck.__init__" (inClass (top 52) 0) (ma K (ga K "Stuck") "__init__") fd
  n_Stuck_days : NoAttr K (ga K "Stuck") "days"
  n_Stuck_reasons : NoAttr K (ga K "Stuck") "reasons"
  n_Stuck_heights : NoAttr K (ga K "Stuck") "heights"
  g_Lifting : mg "Lifting" = some (.ref (ga K "Lifting"))
  c_Lifting : Cls K (ga K "Lifting")
  mk_Lifting : Mk K (ga K "Lifting") (ma K (ga K "Lifting") "__init__")
  f_Lifting_init : ∃ fd, Fun K "__init__" "Lifting.__init__" (inClass (top 55) 0) (ma K (ga K "Lifting") "__init__") fd
  n_Lifting_rows : NoAttr K (ga K "Lifting") "rows"
  n_Lifting_start : NoAttr K (ga K "Lifting") "start"
  n_Lifting_layers : NoAttr K (ga K "Lifting") "layers"
  n_Lifting_reasons : NoAttr K (ga K "Lifting") "reasons"
  n_Lifting_heights : NoAttr K (ga K "Lifting") "heights"
  n_Lifting_known : NoAttr K (ga K "Lifting") "known"
  m_Lifting_open_days : Meth K (ga K "Lifting") "open_days" (ma K (ga K "Lifting") "open_days")
  f_Lifting_open_days : ∃ fd, Fun K "open_days" "Lifting.open_days" (inClass (top 55) 1) (ma K (ga K "Lifting") "open_days") fd
  m_Lifting_settle : Meth K (ga K "Lifting") "settle" (ma K (ga K "Lifting") "settle")
  f_Lifting_settle : ∃ fd, Fun K "settle" "Lifting.settle" (inClass (top 55) 2) (ma K (ga K "Lifting") "settle") fd
  m_Lifting_run : Meth K (ga K "Lifting") "run" (ma K (ga K "Lifting") "run")
  f_Lifting_run : ∃ fd, Fun K "run" "Lifting.run" (inClass (top 55) 3) (ma K (ga K "Lifting") "run") fd
  g_Saying : mg "Saying" = some (.ref (ga K "Saying"))
  c_Saying : Cls K (ga K "Saying")
  mk_Saying : Mk K (ga K "Saying") (ma K (ga K "Saying") "__init__")
  f_Saying_init : ∃ fd, FunD K "__init__" "Saying.__init__" (defArgs (inClass (top 64) 0)) (defBody (inClass (top 64) 0)) (defScope (inClass (top 64) 0)) [.bl true] [] (ma K (ga K "Saying") "__init__") fd
  n_Saying_where : NoAttr K (ga K "Saying") "where"
  n_Saying_then : NoAttr K (ga K "Saying") "then"
  n_Saying_usual : NoAttr K (ga K "Saying") "usual"
  n_Saying_confirm : NoAttr K (ga K "Saying") "confirm"
  n_Saying_broken : NoAttr K (ga K "Saying") "broken"
  n_Saying_low : NoAttr K (ga K "Saying") "low"
  n_Saying_high : NoAttr K (ga K "Saying") "high"
  n_Saying_step : NoAttr K (ga K "Saying") "step"
  m_Saying_contrary : Meth K (ga K "Saying") "contrary" (ma K (ga K "Saying") "contrary")
  f_Saying_contrary : ∃ fd, Fun K "contrary" "Saying.contrary" (inClass (top 64) 3) (ma K (ga K "Saying") "contrary") fd
  m_Saying_flipped : Meth K (ga K "Saying") "flipped" (ma K (ga K "Saying") "flipped")
  f_Saying_flipped : ∃ fd, Fun K "flipped" "Saying.flipped" (inClass (top 64) 4) (ma K (ga K "Saying") "flipped") fd
  g_Verdicts : mg "Verdicts" = some (.ref (ga K "Verdicts"))
  c_Verdicts : Cls K (ga K "Verdicts")
  mk_Verdicts : Mk K (ga K "Verdicts") (ma K (ga K "Verdicts") "__init__")
  f_Verdicts_init : ∃ fd, Fun K "__init__" "Verdicts.__init__" (inClass (top 66) 0) (ma K (ga K "Verdicts") "__init__") fd
  n_Verdicts_confirm : NoAttr K (ga K "Verdicts") "confirm"
  n_Verdicts_broken : NoAttr K (ga K "Verdicts") "broken"
  m_Verdicts_add : Meth K (ga K "Verdicts") "__add__" (ma K (ga K "Verdicts") "__add__")
  f_Verdicts_add : ∃ fd, Fun K "__add__" "Verdicts.__add__" (inClass (top 66) 3) (ma K (ga K "Verdicts") "__add__") fd
  g_Bounded : mg "Bounded" = some (.ref (ga K "Bounded"))
  c_Bounded : Cls K (ga K "Bounded")
  mk_Bounded : Mk K (ga K "Bounded") (ma K (ga K "Bounded") "__init__")
  f_Bounded_init : ∃ fd, Fun K "__init__" "Bounded.__init__" (inClass (top 72) 0) (ma K (ga K "Bounded") "__init__") fd
  n_Bounded_lot : NoAttr K (ga K "Bounded") "lot"
  g_Exceeds : mg "Exceeds" = some (.ref (ga K "Exceeds"))
  c_Exceeds : Cls K (ga K "Exceeds")
  mk_Exceeds : Mk K (ga K "Exceeds") (ma K (ga K "Exceeds") "__init__")
  f_Exceeds_init : ∃ fd, Fun K "__init__" "Exceeds.__init__" (inClass (top 73) 0) (ma K (ga K "Exceeds") "__init__") fd
  n_Exceeds_weights : NoAttr K (ga K "Exceeds") "weights"
  g_Marks : mg "Marks" = some (.ref (ga K "Marks"))
  c_Marks : Cls K (ga K "Marks")
  mk_Marks : Mk K (ga K "Marks") (ma K (ga K "Marks") "__init__")
  f_Marks_init : ∃ fd, Fun K "__init__" "Marks.__init__" (inClass (top 82) 0) (ma K (ga K "Marks") "__init__") fd
  n_Marks_names : NoAttr K (ga K "Marks") "names"
  n_Marks_count : NoAttr K (ga K "Marks") "count"
  n_Marks_days : NoAttr K (ga K "Marks") "days"
  n_Marks_all_days : NoAttr K (ga K "Marks") "all_days"
  g_Book : mg "Book" = some (.ref (ga K "Book"))
  c_Book : Cls K (ga K "Book")
  mk_Book : Mk K (ga K "Book") (ma K (ga K "Book") "__init__")
  f_Book_init : ∃ fd, Fun K "__init__" "Book.__init__" (inClass (top 86) 0) (ma K (ga K "Book") "__init__") fd
  n_Book_marks : NoAttr K (ga K "Book") "marks"
  n_Book_sayings : NoAttr K (ga K "Book") "sayings"
  m_Book_len : Meth K (ga K "Book") "__len__" (ma K (ga K "Book") "__len__")
  f_Book_len : ∃ fd, Fun K "__len__" "Book.__len__" (inClass (top 86) 2) (ma K (ga K "Book") "__len__") fd
  m_Book_iter : Meth K (ga K "Book") "__iter__" (ma K (ga K "Book") "__iter__")
  f_Book_iter : ∃ fd, Fun K "__iter__" "Book.__iter__" (inClass (top 86) 3) (ma K (ga K "Book") "__iter__") fd
  m_Book_getitem : Meth K (ga K "Book") "__getitem__" (ma K (ga K "Book") "__getitem__")
  f_Book_getitem : ∃ fd, Fun K "__getitem__" "Book.__getitem__" (inClass (top 86) 4) (ma K (ga K "Book") "__getitem__") fd
  g_Told : mg "Told" = some (.ref (ga K "Told"))
  c_Told : Cls K (ga K "Told")
  mk_Told : Mk K (ga K "Told") (ma K (ga K "Told") "__init__")
  f_Told_init : ∃ fd, Fun K "__init__" "Told.__init__" (inClass (top 88) 0) (ma K (ga K "Told") "__init__") fd
  n_Told_stuck : NoAttr K (ga K "Told") "stuck"
  g_NotTold : mg "NotTold" = some (.ref (ga K "NotTold"))
  c_NotTold : Cls K (ga K "NotTold")
  mk_NotTold : Mk K (ga K "NotTold") (ma K (ga K "NotTold") "__init__")
  f_NotTold_init : ∃ fd, Fun K "__init__" "NotTold.__init__" (inClass (top 89) 0) (ma K (ga K "NotTold") "__init__") fd
  n_NotTold_order : NoAttr K (ga K "NotTold") "order"
  ic_Bounded : ICls K (ga K "Bounded")
  ic_Exceeds : ICls K (ga K "Exceeds")
  ic_Lifted : ICls K (ga K "Lifted")
  ic_Marks : ICls K (ga K "Marks")
  ic_NotTold : ICls K (ga K "NotTold")
  ic_Saying : ICls K (ga K "Saying")
  ic_Stuck : ICls K (ga K "Stuck")
  ic_Told : ICls K (ga K "Told")
  ic_Weights : ICls K (ga K "Weights")
  x_Book_getitem : PySem.W.fnIn K (ma K (ga K "Book") "__getitem__") = true
  x_Book_noseq : PySem.W.noSeq K (ga K "Book") = true
  x_Verdicts_first : PySem.W.selfFirst K (ga K "Verdicts") = true
  r_Verdicts : ClX.CRead K (ga K "Verdicts") (.type "type")
  m_Verdicts_none : ClX.CMet K (ga K "Verdicts") (.type "type") "none" (ma K (ga K "Verdicts") "none") (He5.wf K (ga K "Verdicts") "classmethod" "none")
  f_Verdicts_none : ∃ fd, Fun K "none" "Verdicts.none" (inClass (top 66) 1) (He5.wf K (ga K "Verdicts") "classmethod" "none") fd
  m_Book_first_need_not : PropOf K (ga K "Book") "first_need_not" (ma K (ga K "Book") "first_need_not") (He5.wf K (ga K "Book") "property" "first_need_not")
  f_Book_first_need_not : ∃ fd, Fun K "first_need_not" "Book.first_need_not" (inClass (top 86) 6) (He5.wf K (ga K "Book") "property" "first_need_not") fd
  i_Marks_Marks : PySem.W.kitOne K (.ref (ga K "Marks")) (.ref (ga K "Marks")) = some true
  i_Saying_Saying : PySem.W.kitOne K (.ref (ga K "Saying")) (.ref (ga K "Saying")) = some true
  i_Stuck_Stuck : PySem.W.kitOne K (.ref (ga K "Stuck")) (.ref (ga K "Stuck")) = some true
  i_Lifted_Stuck : PySem.W.kitOne K (.ref (ga K "Lifted")) (.ref (ga K "Stuck")) = some false
  i_Told_Told : PySem.W.kitOne K (.ref (ga K "Told")) (.ref (ga K "Told")) = some true
  i_NotTold_Told : PySem.W.kitOne K (.ref (ga K "NotTold")) (.ref (ga K "Told")) = some false
  i_Exceeds_Exceeds : PySem.W.kitOne K (.ref (ga K "Exceeds")) (.ref (ga K "Exceeds")) = some true
  i_Bounded_Exceeds : PySem.W.kitOne K (.ref (ga K "Bounded")) (.ref (ga K "Exceeds")) = some false
  i_Bounded_Bounded : PySem.W.kitOne K (.ref (ga K "Bounded")) (.ref (ga K "Bounded")) = some true
  i_Exceeds_Bounded : PySem.W.kitOne K (.ref (ga K "Exceeds")) (.ref (ga K "Bounded")) = some false
  i_Weights_Weights : PySem.W.kitOne K (.ref (ga K "Weights")) (.ref (ga K "Weights")) = some true


/-- a def keeps its promise -/
def Ok (P : Program) (w : World) (K : PySem.W.Frag) (mg : Str → Option Value) (base : Heap) (k : Nat) (f : Addr) (ps : List Str) (sp : Sp) : Prop := ∃ fd, FnOk P w K mg base CX0 k f fd ps sp ∧ Binds K fd ps [] ∧ PySem.W.keepIn K (.ref f) = true
theorem Same.push {H0 H : Hp} {p : Addr} {o : HO} (e : Same H0 H) (h : H p = none) : Same H0 (upd H p o) := fun b u q => by
  rw [upd_ne (ne_of_none (e b u q) h)]
  exact e b u q
theorem Same.new {H : Hp} {p : Addr} {o : HO} (h : H p = none) : Same H (upd H p o) := Same.push (Same.refl H) h
end U
set_option maxHeartbeats 0
namespace U
open PySem L2 He
/-! ### the head: facts by names, with Bools of our own -/
def iclsB (K : PySem.W.Frag) (C : Addr) : Bool := eqO (PySem.W.findIn K (.ref C) "__class__") (some (some (.builtin "object.__class__"))) && (eqO (PySem.W.specialIn K (.builtin "object.__class__") "__get__") (some (some (.builtin "getset_descriptor.__get__"))) &&
  (decide (PySem.W.takesIn K (.builtin "object.__class__") = some true) && decide (PySem.W.mroIn K C (.type "object") = some true)))
theorem icls_ok {K : PySem.W.Frag} {C : Addr} (h : iclsB K C = true) : ICls K C := by
  obtain ⟨h1, h⟩ := ba h
  obtain ⟨h2, h⟩ := ba h
  obtain ⟨h3, h4⟩ := ba h
  exact ⟨eqO_ok h1, eqO_ok h2, of_decide_eq_true h3, of_decide_eq_true h4⟩
theorem cread_ok {K : PySem.W.Frag} {C : Addr} (h : PySem.W.readsIn K C (.type "type") = true) : ClX.CRead K C (.type "type") := by
  refine ⟨h, ?_⟩
  unfold PySem.W.readsIn at h
  obtain ⟨h, _⟩ := ba h
  obtain ⟨h, _⟩ := ba h
  obtain ⟨h, k2⟩ := ba h
  obtain ⟨_, k1⟩ := ba h
  unfold PySem.W.specialIn
  rw [beq_iff_eq.mp k1, Option.bind_some]
  exact beq_iff_eq.mp k2
def propB (K : PySem.W.Frag) (C : Addr) (m : Str) : Bool := eqO (PySem.W.findIn K (.ref C) m) (some (some (.ref (ma K C m)))) && (eqO (PySem.W.specialIn K (.ref (ma K C m)) "__get__") (some (some (.builtin "property.__get__"))) &&
  (decide (PySem.W.takesIn K (.ref (ma K C m)) = some true) && (match PySem.W.recIn K (ma K C m) "property" with
    | some (.ref _ :: _) => true
    | _ => false)))
theorem prop_ok {K : PySem.W.Frag} {C : Addr} {m : Str} (h : propB K C m = true) : PropOf K C m (ma K C m) (He5.wf K C "property" m) := by
  obtain ⟨h1, h⟩ := ba h
  obtain ⟨h2, h⟩ := ba h
  obtain ⟨h3, h4⟩ := ba h
  refine ⟨eqO_ok h1, eqO_ok h2, of_decide_eq_true h3, ?_⟩
  unfold He5.wf
  split at h4
  · rename_i f r e
    exact ⟨r, by rw [e]⟩
  · cases h4
/-- those of a list that are not yet seen (vis: a mask), each once -/
def addNew (vis : Nat) : List Addr → Nat × List Addr
  | [] => (vis, [])
  | a :: r => match Nat.beq (Nat.land (Nat.shiftRight vis a) 1) 1 with
    | true => addNew vis r
    | false => let p := addNew (Nat.lor vis (Nat.shiftLeft 1 a)) r; (p.1, a :: p.2)
/-- what an object names; a code object's own names are left out -/
def refsY (g : Addr → Option Obj) (a : Addr) : List Addr := match g a with
  | some o => (match o.cls with
    | .type c => (match decide (c = "code") with
      | true => []
      | false => refsD o)
    | _ => refsD o)
  | none => []
def bfsY (g : Addr → Option Obj) : Nat → Nat → List Addr → List Addr
  | 0, _, fr => fr
  | n + 1, vis, fr => let p := addNew vis (fr.flatMap (refsY g)); fr ++ bfsY g n p.1 p.2
def asY (g : Addr → Option Obj) (n : Nat) : List Addr := bfsY g n (Nat.shiftLeft 1 mainGlobals) [mainGlobals] ++ [cStatics]
/-- what the head looks at -/
def obsX (fa : List Fa) (fn : List He5.DefA) (xb : List (PySem.W.Frag → Bool)) (K : PySem.W.Frag) : AlD := ((fa.all fun f => f.ok K) && ((fn.all fun d => d.ok K) && xb.all fun b => b K), fn.map fun d => He5.fnA K (d.at_ K))
def SaysX (fa : List Fa) (fn : List He5.DefA) (xb : List (PySem.W.Frag → Bool)) (K : PySem.W.Frag) : Prop := obsX fa fn xb K = He5.valA fn
def obsXG (n : Nat) (fa : List Fa) (fn : List He5.DefA) (xb : List (PySem.W.Frag → Bool)) (g : Addr → Option Obj) : AlD := obsX fa fn xb (frG g (asY g n))
def hookX (n : Nat) (fa : List Fa) (fn : List He5.DefA) (xb : List (PySem.W.Frag → Bool)) : PySem.W.Hook where
  α := AlD
  obs := fun s => obsXG n fa fn xb s.heap.get?
  val := fun _ => He5.valA fn
  says := fun _ h => ∃ K : PySem.W.Frag, K.In h ∧ SaysX fa fn xb K
  of := fun _ _ eq => ⟨_, frG_in, eq⟩
  keeps := fun _ _ _ ⟨K, inK, says⟩ k => ⟨K, PySem.W.Frag.In.keeps inK k, says⟩
theorem obsXG_eq {n : Nat} {fa : List Fa} {fn : List He5.DefA} {xb : List (PySem.W.Frag → Bool)} {g : Addr → Option Obj} {s : Shared} (h : ∀ a, g a = s.heap.get? a) : obsXG n fa fn xb g = (hookX n fa fn xb).obs s := by
  have same : g = s.heap.get? := funext h
  subst same
  rfl
section
variable {fa : List Fa} {fn : List He5.DefA} {xb : List (PySem.W.Frag → Bool)} {K : PySem.W.Frag}
theorem SaysX.fst (c : SaysX fa fn xb K) : ((fa.all fun f => f.ok K) && ((fn.all fun d => d.ok K) && xb.all fun b => b K)) = true := congrArg (fun z : AlD => z.1) c
theorem SaysX.fact (c : SaysX fa fn xb K) (i : Nat) {f : Fa} (h : fa[i]? = some f := by rfl) : f.ok K = true := List.all_eq_true.mp (ba c.fst).1 f (List.mem_of_getElem? h)
theorem SaysX.bool (c : SaysX fa fn xb K) (i : Nat) {b : PySem.W.Frag → Bool} (h : xb[i]? = some b := by rfl) : b K = true := List.all_eq_true.mp (ba (ba c.fst).2).2 b (List.mem_of_getElem? h)
theorem SaysX.def_ (c : SaysX fa fn xb K) (i : Nat) {d : He5.DefA} (h : fn[i]? = some d := by rfl) : ∃ fd, FunD K d.name d.qual d.params d.body d.scope (d.dvs K) (d.kws K) (d.at_ K) fd := by
  have e : (fn.map fun d => He5.fnA K (d.at_ K))[i]? = (fn.map He5.DefA.val)[i]? := congrArg (fun z : AlD => z.2[i]?) c
  rw [List.getElem?_map, List.getElem?_map, h] at e
  exact He5.DefA.funD (Option.some.inj e) (List.all_eq_true.mp (ba (ba c.fst).2).1 d (List.mem_of_getElem? h))
end
def hfa0 : List Fa := [.free "len",
  .free "isinstance",
  .free "int",
  .free "bool",
  .free "str",
  .free "list",
  .free "tuple",
  .free "enumerate",
  .free "range",
  .free "sum",
  .free "min",
  .free "max",
  .free "sorted",
  .free "reversed",
  .free "set",
  .free "abs",
  .free "iter",
  .int "HIGHEST" 1000000000000000000000000000000,
  .int "ALL_BITS" 65535,
  .int "LAST_DAY" 15,
  .int "MOST_PARTS" 1000000,
  .int "MOST_MARKS" 4,
  .int "LONGEST_NAME" 8,
  .int "MOST_SAYINGS" 12,
  .str "LETTERS" "abcdefghijklmnopqrstuvwxyz",
  .glo "SIZES",
  .glo "COUNTS",
  .glo "KEPT_WORDS",
  .glo "set_of",
  .glo "within"]
def hfa1 : List Fa := [.glo "is_whole",
  .glo "ratio",
  .glo "compare_ratios",
  .glo "ratio_sum",
  .glo "check_days_doubts",
  .glo "check_usual",
  .glo "plain_doubt",
  .glo "doubts_of",
  .glo "doubt_sum",
  .glo "is_weight",
  .glo "check_asked",
  .glo "checked_layers",
  .glo "all_sayings",
  .glo "first_reason",
  .glo "lifting_of",
  .glo "lift",
  .glo "lifted_layers",
  .glo "big_steps",
  .glo "verdicts_of",
  .glo "joined",
  .glo "sharper",
  .glo "sum_bound",
  .glo "sum_fault",
  .glo "name_fault",
  .glo "check_saying_days",
  .glo "tell",
  .glo "check_all_usual",
  .glo "is_sharp",
  .glo "widest_lot",
  .glo "sharp_lot"]
def hfa2 : List Fa := [.glo "_law_power",
  .glo "_law_well",
  .glo "_law_drawn",
  .glo "_law_one_of",
  .glo "_law_pair",
  .glo "_law_pairs",
  .glo "_law_saying",
  .glo "_law_marks",
  .glo "_law_ratio",
  .glo "_law_weight",
  .glo "_law_doubt",
  .glo "_law_numbers",
  .glo "_law_above",
  .glo "_law_sum",
  .glo "_law_joined",
  .glo "_law_sharp",
  .glo "_law_yields",
  .glo "_law_further",
  .glo "_law_filled",
  .glo "_law_lot_word",
  .glo "_law_exceeds_word",
  .glo "_law_bounded_right",
  .glo "_law_exceeds_right",
  .glo "_law_judged",
  .glo "law",
  .glo "Weights",
  .cls "Weights",
  .mkr "Weights",
  .noat "Weights" "numbers",
  .meth "Weights" "picked"]
def hfa3 : List Fa := [.meth "Weights" "of",
  .meth "Weights" "__len__",
  .glo "Order",
  .cls "Order",
  .mkr "Order",
  .noat "Order" "layers",
  .glo "Lifted",
  .cls "Lifted",
  .mkr "Lifted",
  .noat "Lifted" "order",
  .noat "Lifted" "reasons",
  .noat "Lifted" "heights",
  .glo "Stuck",
  .cls "Stuck",
  .mkr "Stuck",
  .noat "Stuck" "days",
  .noat "Stuck" "reasons",
  .noat "Stuck" "heights",
  .glo "Lifting",
  .cls "Lifting",
  .mkr "Lifting",
  .noat "Lifting" "rows",
  .noat "Lifting" "start",
  .noat "Lifting" "layers",
  .noat "Lifting" "reasons",
  .noat "Lifting" "heights",
  .noat "Lifting" "known",
  .meth "Lifting" "open_days",
  .meth "Lifting" "settle",
  .meth "Lifting" "run"]
def hfa4 : List Fa := [.glo "Saying",
  .cls "Saying",
  .mkr "Saying",
  .noat "Saying" "where",
  .noat "Saying" "then",
  .noat "Saying" "usual",
  .noat "Saying" "confirm",
  .noat "Saying" "broken",
  .noat "Saying" "low",
  .noat "Saying" "high",
  .noat "Saying" "step",
  .meth "Saying" "contrary",
  .meth "Saying" "flipped",
  .glo "Verdicts",
  .cls "Verdicts",
  .mkr "Verdicts",
  .noat "Verdicts" "confirm",
  .noat "Verdicts" "broken",
  .meth "Verdicts" "__add__",
  .glo "Bounded",
  .cls "Bounded",
  .mkr "Bounded",
  .noat "Bounded" "lot",
  .glo "Exceeds",
  .cls "Exceeds",
  .mkr "Exceeds",
  .noat "Exceeds" "weights",
  .glo "Marks",
  .cls "Marks",
  .mkr "Marks"]
def hfa5 : List Fa := [.noat "Marks" "names",
  .noat "Marks" "count",
  .noat "Marks" "days",
  .noat "Marks" "all_days",
  .glo "Book",
  .cls "Book",
  .mkr "Book",
  .noat "Book" "marks",
  .noat "Book" "sayings",
  .meth "Book" "__len__",
  .meth "Book" "__iter__",
  .meth "Book" "__getitem__",
  .glo "Told",
  .cls "Told",
  .mkr "Told",
  .noat "Told" "stuck",
  .glo "NotTold",
  .cls "NotTold",
  .mkr "NotTold",
  .noat "NotTold" "order"]
def hfa : List Fa := hfa0 ++ (hfa1 ++ (hfa2 ++ (hfa3 ++ (hfa4 ++ (hfa5)))))
def hfn0 : List He5.DefA := [⟨fun K => ga K "set_of", "set_of", "set_of", defArgs (top 4), defBody (top 4), defScope (top 4), [], []⟩,
  ⟨fun K => ga K "within", "within", "within", defArgs (top 5), defBody (top 5), defScope (top 5), [], []⟩,
  ⟨fun K => ga K "is_whole", "is_whole", "is_whole", defArgs (top 24), defBody (top 24), defScope (top 24), [], []⟩,
  ⟨fun K => ga K "ratio", "ratio", "ratio", defArgs (top 25), defBody (top 25), defScope (top 25), [], []⟩,
  ⟨fun K => ga K "compare_ratios", "compare_ratios", "compare_ratios", defArgs (top 26), defBody (top 26), defScope (top 26), [], []⟩,
  ⟨fun K => ga K "ratio_sum", "ratio_sum", "ratio_sum", defArgs (top 27), defBody (top 27), defScope (top 27), [], []⟩,
  ⟨fun K => ga K "check_days_doubts", "check_days", "check_days", defArgs (top 29), defBody (top 29), defScope (top 29), [], []⟩,
  ⟨fun K => ga K "check_usual", "check_usual", "check_usual", defArgs (top 31), defBody (top 31), defScope (top 31), [], []⟩,
  ⟨fun K => ga K "plain_doubt", "plain_doubt", "plain_doubt", defArgs (top 32), defBody (top 32), defScope (top 32), [], []⟩,
  ⟨fun K => ga K "doubts_of", "doubts_of", "doubts_of", defArgs (top 33), defBody (top 33), defScope (top 33), [], []⟩,
  ⟨fun K => ga K "doubt_sum", "doubt_sum", "doubt_sum", defArgs (top 34), defBody (top 34), defScope (top 34), [], []⟩,
  ⟨fun K => ga K "is_weight", "is_weight", "is_weight", defArgs (top 37), defBody (top 37), defScope (top 37), [], []⟩,
  ⟨fun K => ga K "check_asked", "check_asked", "check_asked", defArgs (top 40), defBody (top 40), defScope (top 40), [], []⟩,
  ⟨fun K => ga K "checked_layers", "checked_layers", "checked_layers", defArgs (top 44), defBody (top 44), defScope (top 44), [], []⟩,
  ⟨fun K => ga K "all_sayings", "all_sayings", "all_sayings", defArgs (top 53), defBody (top 53), defScope (top 53), [], []⟩,
  ⟨fun K => ga K "first_reason", "first_reason", "first_reason", defArgs (top 54), defBody (top 54), defScope (top 54), [], []⟩,
  ⟨fun K => ga K "lifting_of", "lifting_of", "lifting_of", defArgs (top 56), defBody (top 56), defScope (top 56), [], []⟩,
  ⟨fun K => ga K "lift", "lift", "lift", defArgs (top 57), defBody (top 57), defScope (top 57), [], []⟩,
  ⟨fun K => ga K "lifted_layers", "lifted_layers", "lifted_layers", defArgs (top 58), defBody (top 58), defScope (top 58), [], [("start", .non)]⟩,
  ⟨fun K => ga K "big_steps", "big_steps", "big_steps", defArgs (top 60), defBody (top 60), defScope (top 60), [], []⟩]
def hfn1 : List He5.DefA := [⟨fun K => ga K "verdicts_of", "verdicts_of", "verdicts_of", defArgs (top 67), defBody (top 67), defScope (top 67), [], []⟩,
  ⟨fun K => ga K "joined", "joined", "joined", defArgs (top 68), defBody (top 68), defScope (top 68), [], []⟩,
  ⟨fun K => ga K "sharper", "sharper", "sharper", defArgs (top 69), defBody (top 69), defScope (top 69), [], []⟩,
  ⟨fun K => ga K "sum_bound", "sum_bound", "sum_bound", defArgs (top 74), defBody (top 74), defScope (top 74), [], [("parts", .int 2)]⟩,
  ⟨fun K => ga K "sum_fault", "sum_fault", "sum_fault", defArgs (top 75), defBody (top 75), defScope (top 75), [], []⟩,
  ⟨fun K => ga K "name_fault", "name_fault", "name_fault", defArgs (top 81), defBody (top 81), defScope (top 81), [], []⟩,
  ⟨fun K => ga K "check_saying_days", "check_saying_days", "check_saying_days", defArgs (top 90), defBody (top 90), defScope (top 90), [], []⟩,
  ⟨fun K => ga K "tell", "tell", "tell", defArgs (top 91), defBody (top 91), defScope (top 91), [], []⟩,
  ⟨fun K => ga K "check_all_usual", "check_all_usual", "check_all_usual", defArgs (top 93), defBody (top 93), defScope (top 93), [], []⟩,
  ⟨fun K => ga K "is_sharp", "is_sharp", "is_sharp", defArgs (top 94), defBody (top 94), defScope (top 94), [], []⟩,
  ⟨fun K => ga K "widest_lot", "widest_lot", "widest_lot", defArgs (top 95), defBody (top 95), defScope (top 95), [], []⟩,
  ⟨fun K => ga K "sharp_lot", "sharp_lot", "sharp_lot", defArgs (top 96), defBody (top 96), defScope (top 96), [], []⟩,
  ⟨fun K => ga K "_law_power", "_law_power", "_law_power", defArgs (top 98), defBody (top 98), defScope (top 98), [], []⟩,
  ⟨fun K => ga K "_law_well", "_law_well", "_law_well", defArgs (top 99), defBody (top 99), defScope (top 99), [], []⟩,
  ⟨fun K => ga K "_law_drawn", "_law_drawn", "_law_drawn", defArgs (top 100), defBody (top 100), defScope (top 100), [], []⟩,
  ⟨fun K => ga K "_law_one_of", "_law_one_of", "_law_one_of", defArgs (top 101), defBody (top 101), defScope (top 101), [], []⟩,
  ⟨fun K => ga K "_law_pair", "_law_pair", "_law_pair", defArgs (top 102), defBody (top 102), defScope (top 102), [], []⟩,
  ⟨fun K => ga K "_law_pairs", "_law_pairs", "_law_pairs", defArgs (top 103), defBody (top 103), defScope (top 103), [], []⟩,
  ⟨fun K => ga K "_law_saying", "_law_saying", "_law_saying", defArgs (top 104), defBody (top 104), defScope (top 104), [], []⟩,
  ⟨fun K => ga K "_law_marks", "_law_marks", "_law_marks", defArgs (top 105), defBody (top 105), defScope (top 105), [], []⟩]
def hfn2 : List He5.DefA := [⟨fun K => ga K "_law_ratio", "_law_ratio", "_law_ratio", defArgs (top 106), defBody (top 106), defScope (top 106), [], []⟩,
  ⟨fun K => ga K "_law_weight", "_law_weight", "_law_weight", defArgs (top 107), defBody (top 107), defScope (top 107), [], []⟩,
  ⟨fun K => ga K "_law_doubt", "_law_doubt", "_law_doubt", defArgs (top 108), defBody (top 108), defScope (top 108), [], []⟩,
  ⟨fun K => ga K "_law_numbers", "_law_numbers", "_law_numbers", defArgs (top 109), defBody (top 109), defScope (top 109), [], []⟩,
  ⟨fun K => ga K "_law_above", "_law_above", "_law_above", defArgs (top 110), defBody (top 110), defScope (top 110), [], []⟩,
  ⟨fun K => ga K "_law_sum", "_law_sum", "_law_sum", defArgs (top 111), defBody (top 111), defScope (top 111), [], []⟩,
  ⟨fun K => ga K "_law_joined", "_law_joined", "_law_joined", defArgs (top 112), defBody (top 112), defScope (top 112), [], []⟩,
  ⟨fun K => ga K "_law_sharp", "_law_sharp", "_law_sharp", defArgs (top 113), defBody (top 113), defScope (top 113), [], []⟩,
  ⟨fun K => ga K "_law_yields", "_law_yields", "_law_yields", defArgs (top 114), defBody (top 114), defScope (top 114), [], []⟩,
  ⟨fun K => ga K "_law_further", "_law_further", "_law_further", defArgs (top 115), defBody (top 115), defScope (top 115), [], []⟩,
  ⟨fun K => ga K "_law_filled", "_law_filled", "_law_filled", defArgs (top 116), defBody (top 116), defScope (top 116), [], []⟩,
  ⟨fun K => ga K "_law_lot_word", "_law_lot_word", "_law_lot_word", defArgs (top 117), defBody (top 117), defScope (top 117), [], []⟩,
  ⟨fun K => ga K "_law_exceeds_word", "_law_exceeds_word", "_law_exceeds_word", defArgs (top 118), defBody (top 118), defScope (top 118), [], []⟩,
  ⟨fun K => ga K "_law_bounded_right", "_law_bounded_right", "_law_bounded_right", defArgs (top 119), defBody (top 119), defScope (top 119), [], []⟩,
  ⟨fun K => ga K "_law_exceeds_right", "_law_exceeds_right", "_law_exceeds_right", defArgs (top 120), defBody (top 120), defScope (top 120), [], []⟩,
  ⟨fun K => ga K "_law_judged", "_law_judged", "_law_judged", defArgs (top 121), defBody (top 121), defScope (top 121), [], []⟩,
  ⟨fun K => ga K "law", "law", "law", defArgs (top 122), defBody (top 122), defScope (top 122), [], []⟩,
  ⟨fun K => ma K (ga K "Weights") "__init__", "__init__", "Weights.__init__", defArgs (inClass (top 38) 0), defBody (inClass (top 38) 0), defScope (inClass (top 38) 0), [], []⟩,
  ⟨fun K => ma K (ga K "Weights") "picked", "picked", "Weights.picked", defArgs (inClass (top 38) 4), defBody (inClass (top 38) 4), defScope (inClass (top 38) 4), [], []⟩,
  ⟨fun K => ma K (ga K "Weights") "of", "of", "Weights.of", defArgs (inClass (top 38) 5), defBody (inClass (top 38) 5), defScope (inClass (top 38) 5), [], []⟩]
def hfn3 : List He5.DefA := [⟨fun K => ma K (ga K "Weights") "__len__", "__len__", "Weights.__len__", defArgs (inClass (top 38) 12), defBody (inClass (top 38) 12), defScope (inClass (top 38) 12), [], []⟩,
  ⟨fun K => ma K (ga K "Order") "__init__", "__init__", "Order.__init__", defArgs (inClass (top 49) 0), defBody (inClass (top 49) 0), defScope (inClass (top 49) 0), [], []⟩,
  ⟨fun K => ma K (ga K "Lifted") "__init__", "__init__", "Lifted.__init__", defArgs (inClass (top 51) 0), defBody (inClass (top 51) 0), defScope (inClass (top 51) 0), [], []⟩,
  ⟨fun K => ma K (ga K "Stuck") "__init__", "__init__", "Stuck.__init__", defArgs (inClass (top 52) 0), defBody (inClass (top 52) 0), defScope (inClass (top 52) 0), [], []⟩,
  ⟨fun K => ma K (ga K "Lifting") "__init__", "__init__", "Lifting.__init__", defArgs (inClass (top 55) 0), defBody (inClass (top 55) 0), defScope (inClass (top 55) 0), [], []⟩,
  ⟨fun K => ma K (ga K "Lifting") "open_days", "open_days", "Lifting.open_days", defArgs (inClass (top 55) 1), defBody (inClass (top 55) 1), defScope (inClass (top 55) 1), [], []⟩,
  ⟨fun K => ma K (ga K "Lifting") "settle", "settle", "Lifting.settle", defArgs (inClass (top 55) 2), defBody (inClass (top 55) 2), defScope (inClass (top 55) 2), [], []⟩,
  ⟨fun K => ma K (ga K "Lifting") "run", "run", "Lifting.run", defArgs (inClass (top 55) 3), defBody (inClass (top 55) 3), defScope (inClass (top 55) 3), [], []⟩,
  ⟨fun K => ma K (ga K "Saying") "__init__", "__init__", "Saying.__init__", defArgs (inClass (top 64) 0), defBody (inClass (top 64) 0), defScope (inClass (top 64) 0), [.bl true], []⟩,
  ⟨fun K => ma K (ga K "Saying") "contrary", "contrary", "Saying.contrary", defArgs (inClass (top 64) 3), defBody (inClass (top 64) 3), defScope (inClass (top 64) 3), [], []⟩,
  ⟨fun K => ma K (ga K "Saying") "flipped", "flipped", "Saying.flipped", defArgs (inClass (top 64) 4), defBody (inClass (top 64) 4), defScope (inClass (top 64) 4), [], []⟩,
  ⟨fun K => ma K (ga K "Verdicts") "__init__", "__init__", "Verdicts.__init__", defArgs (inClass (top 66) 0), defBody (inClass (top 66) 0), defScope (inClass (top 66) 0), [], []⟩,
  ⟨fun K => ma K (ga K "Verdicts") "__add__", "__add__", "Verdicts.__add__", defArgs (inClass (top 66) 3), defBody (inClass (top 66) 3), defScope (inClass (top 66) 3), [], []⟩,
  ⟨fun K => ma K (ga K "Bounded") "__init__", "__init__", "Bounded.__init__", defArgs (inClass (top 72) 0), defBody (inClass (top 72) 0), defScope (inClass (top 72) 0), [], []⟩,
  ⟨fun K => ma K (ga K "Exceeds") "__init__", "__init__", "Exceeds.__init__", defArgs (inClass (top 73) 0), defBody (inClass (top 73) 0), defScope (inClass (top 73) 0), [], []⟩,
  ⟨fun K => ma K (ga K "Marks") "__init__", "__init__", "Marks.__init__", defArgs (inClass (top 82) 0), defBody (inClass (top 82) 0), defScope (inClass (top 82) 0), [], []⟩,
  ⟨fun K => ma K (ga K "Book") "__init__", "__init__", "Book.__init__", defArgs (inClass (top 86) 0), defBody (inClass (top 86) 0), defScope (inClass (top 86) 0), [], []⟩,
  ⟨fun K => ma K (ga K "Book") "__len__", "__len__", "Book.__len__", defArgs (inClass (top 86) 2), defBody (inClass (top 86) 2), defScope (inClass (top 86) 2), [], []⟩,
  ⟨fun K => ma K (ga K "Book") "__iter__", "__iter__", "Book.__iter__", defArgs (inClass (top 86) 3), defBody (inClass (top 86) 3), defScope (inClass (top 86) 3), [], []⟩,
  ⟨fun K => ma K (ga K "Book") "__getitem__", "__getitem__", "Book.__getitem__", defArgs (inClass (top 86) 4), defBody (inClass (top 86) 4), defScope (inClass (top 86) 4), [], []⟩]
def hfn4 : List He5.DefA := [⟨fun K => ma K (ga K "Told") "__init__", "__init__", "Told.__init__", defArgs (inClass (top 88) 0), defBody (inClass (top 88) 0), defScope (inClass (top 88) 0), [], []⟩,
  ⟨fun K => ma K (ga K "NotTold") "__init__", "__init__", "NotTold.__init__", defArgs (inClass (top 89) 0), defBody (inClass (top 89) 0), defScope (inClass (top 89) 0), [], []⟩,
  ⟨fun K => He5.wf K (ga K "Verdicts") "classmethod" "none", "none", "Verdicts.none", defArgs (inClass (top 66) 1), defBody (inClass (top 66) 1), defScope (inClass (top 66) 1), [], []⟩,
  ⟨fun K => He5.wf K (ga K "Book") "property" "first_need_not", "first_need_not", "Book.first_need_not", defArgs (inClass (top 86) 6), defBody (inClass (top 86) 6), defScope (inClass (top 86) 6), [], []⟩]
def hfn : List He5.DefA := hfn0 ++ (hfn1 ++ (hfn2 ++ (hfn3 ++ (hfn4))))
def hxb0 : List (PySem.W.Frag → Bool) := [fun K => eqO (PySem.W.nsIn K mainGlobals "gcd") (some (some (.builtin "math.gcd"))),
  fun K => tupB K "SIZES" [.int 2, .int 4, .int 8, .int 16],
  fun K => tupB K "COUNTS" [.int 2, .int 4, .int 8, .int 16],
  fun K => tupB K "KEPT_WORDS" [.str "and", .str "any", .str "marks", .str "need", .str "never", .str "not", .str "or", .str "usually", .str "where"],
  fun K => iclsB K (ga K "Bounded"),
  fun K => iclsB K (ga K "Exceeds"),
  fun K => iclsB K (ga K "Lifted"),
  fun K => iclsB K (ga K "Marks"),
  fun K => iclsB K (ga K "NotTold"),
  fun K => iclsB K (ga K "Saying"),
  fun K => iclsB K (ga K "Stuck"),
  fun K => iclsB K (ga K "Told"),
  fun K => iclsB K (ga K "Weights"),
  fun K => PySem.W.fnIn K (ma K (ga K "Book") "__getitem__"),
  fun K => PySem.W.noSeq K (ga K "Book"),
  fun K => PySem.W.selfFirst K (ga K "Verdicts"),
  fun K => PySem.W.readsIn K (ga K "Verdicts") (.type "type"),
  fun K => He5.wrapB K (ga K "Verdicts") "classmethod" "classmethod.__get__" "none",
  fun K => PySem.W.fnIn K (He5.wf K (ga K "Verdicts") "classmethod" "none"),
  fun K => propB K (ga K "Book") "first_need_not"]
def hxb1 : List (PySem.W.Frag → Bool) := [fun K => decide (PySem.W.kitOne K (.ref (ga K "Marks")) (.ref (ga K "Marks")) = some true),
  fun K => decide (PySem.W.kitOne K (.ref (ga K "Saying")) (.ref (ga K "Saying")) = some true),
  fun K => decide (PySem.W.kitOne K (.ref (ga K "Stuck")) (.ref (ga K "Stuck")) = some true),
  fun K => decide (PySem.W.kitOne K (.ref (ga K "Lifted")) (.ref (ga K "Stuck")) = some false),
  fun K => decide (PySem.W.kitOne K (.ref (ga K "Told")) (.ref (ga K "Told")) = some true),
  fun K => decide (PySem.W.kitOne K (.ref (ga K "NotTold")) (.ref (ga K "Told")) = some false),
  fun K => decide (PySem.W.kitOne K (.ref (ga K "Exceeds")) (.ref (ga K "Exceeds")) = some true),
  fun K => decide (PySem.W.kitOne K (.ref (ga K "Bounded")) (.ref (ga K "Exceeds")) = some false),
  fun K => decide (PySem.W.kitOne K (.ref (ga K "Bounded")) (.ref (ga K "Bounded")) = some true),
  fun K => decide (PySem.W.kitOne K (.ref (ga K "Exceeds")) (.ref (ga K "Bounded")) = some false),
  fun K => decide (PySem.W.kitOne K (.ref (ga K "Weights")) (.ref (ga K "Weights")) = some true)]
def hxb : List (PySem.W.Frag → Bool) := hxb0 ++ (hxb1)
theorem txt_of {K : PySem.W.Frag} {h : Heap} {mg : Str → Option Value} (X : K.In h) (G : h.Ns mainGlobals mg) (c : SaysX hfa hfn hxb K) : Txt K mg where
  b_len := free_ok X G (c.fact 0)
  b_isinstance := free_ok X G (c.fact 1)
  b_int := free_ok X G (c.fact 2)
  b_bool := free_ok X G (c.fact 3)
  b_str := free_ok X G (c.fact 4)
  b_list := free_ok X G (c.fact 5)
  b_tuple := free_ok X G (c.fact 6)
  b_enumerate := free_ok X G (c.fact 7)
  b_range := free_ok X G (c.fact 8)
  b_sum := free_ok X G (c.fact 9)
  b_min := free_ok X G (c.fact 10)
  b_max := free_ok X G (c.fact 11)
  b_sorted := free_ok X G (c.fact 12)
  b_reversed := free_ok X G (c.fact 13)
  b_set := free_ok X G (c.fact 14)
  b_abs := free_ok X G (c.fact 15)
  b_iter := free_ok X G (c.fact 16)
  g_gcd := PySem.W.mg_of X G (eqO_ok (c.bool 0))
  c_HIGHEST := int_ok X G (c.fact 17)
  c_ALL_BITS := int_ok X G (c.fact 18)
  c_LAST_DAY := int_ok X G (c.fact 19)
  c_MOST_PARTS := int_ok X G (c.fact 20)
  c_MOST_MARKS := int_ok X G (c.fact 21)
  c_LONGEST_NAME := int_ok X G (c.fact 22)
  c_MOST_SAYINGS := int_ok X G (c.fact 23)
  c_LETTERS := str_ok X G (c.fact 24)
  g_SIZES := glo_ok X G (c.fact 25)
  t_SIZES := fun H => tupB_ok (c.bool 1) H
  g_COUNTS := glo_ok X G (c.fact 26)
  t_COUNTS := fun H => tupB_ok (c.bool 2) H
  g_KEPT_WORDS := glo_ok X G (c.fact 27)
  t_KEPT_WORDS := fun H => tupB_ok (c.bool 3) H
  g_set_of := glo_ok X G (c.fact 28)
  d_set_of := ((c.def_ 0).imp fun _ z => He5.fun_of z)
  g_within := glo_ok X G (c.fact 29)
  d_within := ((c.def_ 1).imp fun _ z => He5.fun_of z)
  g_is_whole := glo_ok X G (c.fact 30)
  d_is_whole := ((c.def_ 2).imp fun _ z => He5.fun_of z)
  g_ratio := glo_ok X G (c.fact 31)
  d_ratio := ((c.def_ 3).imp fun _ z => He5.fun_of z)
  g_compare_ratios := glo_ok X G (c.fact 32)
  d_compare_ratios := ((c.def_ 4).imp fun _ z => He5.fun_of z)
  g_ratio_sum := glo_ok X G (c.fact 33)
  d_ratio_sum := ((c.def_ 5).imp fun _ z => He5.fun_of z)
  g_check_days_doubts := glo_ok X G (c.fact 34)
  d_check_days_doubts := ((c.def_ 6).imp fun _ z => He5.fun_of z)
  g_check_usual := glo_ok X G (c.fact 35)
  d_check_usual := ((c.def_ 7).imp fun _ z => He5.fun_of z)
  g_plain_doubt := glo_ok X G (c.fact 36)
  d_plain_doubt := ((c.def_ 8).imp fun _ z => He5.fun_of z)
  g_doubts_of := glo_ok X G (c.fact 37)
  d_doubts_of := ((c.def_ 9).imp fun _ z => He5.fun_of z)
  g_doubt_sum := glo_ok X G (c.fact 38)
  d_doubt_sum := ((c.def_ 10).imp fun _ z => He5.fun_of z)
  g_is_weight := glo_ok X G (c.fact 39)
  d_is_weight := ((c.def_ 11).imp fun _ z => He5.fun_of z)
  g_check_asked := glo_ok X G (c.fact 40)
  d_check_asked := ((c.def_ 12).imp fun _ z => He5.fun_of z)
  g_checked_layers := glo_ok X G (c.fact 41)
  d_checked_layers := ((c.def_ 13).imp fun _ z => He5.fun_of z)
  g_all_sayings := glo_ok X G (c.fact 42)
  d_all_sayings := ((c.def_ 14).imp fun _ z => He5.fun_of z)
  g_first_reason := glo_ok X G (c.fact 43)
  d_first_reason := ((c.def_ 15).imp fun _ z => He5.fun_of z)
  g_lifting_of := glo_ok X G (c.fact 44)
  d_lifting_of := ((c.def_ 16).imp fun _ z => He5.fun_of z)
  g_lift := glo_ok X G (c.fact 45)
  d_lift := ((c.def_ 17).imp fun _ z => He5.fun_of z)
  g_lifted_layers := glo_ok X G (c.fact 46)
  d_lifted_layers := (c.def_ 18)
  g_big_steps := glo_ok X G (c.fact 47)
  d_big_steps := ((c.def_ 19).imp fun _ z => He5.fun_of z)
  g_verdicts_of := glo_ok X G (c.fact 48)
  d_verdicts_of := ((c.def_ 20).imp fun _ z => He5.fun_of z)
  g_joined := glo_ok X G (c.fact 49)
  d_joined := ((c.def_ 21).imp fun _ z => He5.fun_of z)
  g_sharper := glo_ok X G (c.fact 50)
  d_sharper := ((c.def_ 22).imp fun _ z => He5.fun_of z)
  g_sum_bound := glo_ok X G (c.fact 51)
  d_sum_bound := (c.def_ 23)
  g_sum_fault := glo_ok X G (c.fact 52)
  d_sum_fault := ((c.def_ 24).imp fun _ z => He5.fun_of z)
  g_name_fault := glo_ok X G (c.fact 53)
  d_name_fault := ((c.def_ 25).imp fun _ z => He5.fun_of z)
  g_check_saying_days := glo_ok X G (c.fact 54)
  d_check_saying_days := ((c.def_ 26).imp fun _ z => He5.fun_of z)
  g_tell := glo_ok X G (c.fact 55)
  d_tell := ((c.def_ 27).imp fun _ z => He5.fun_of z)
  g_check_all_usual := glo_ok X G (c.fact 56)
  d_check_all_usual := ((c.def_ 28).imp fun _ z => He5.fun_of z)
  g_is_sharp := glo_ok X G (c.fact 57)
  d_is_sharp := ((c.def_ 29).imp fun _ z => He5.fun_of z)
  g_widest_lot := glo_ok X G (c.fact 58)
  d_widest_lot := ((c.def_ 30).imp fun _ z => He5.fun_of z)
  g_sharp_lot := glo_ok X G (c.fact 59)
  d_sharp_lot := ((c.def_ 31).imp fun _ z => He5.fun_of z)
  g__law_power := glo_ok X G (c.fact 60)
  d_law_power := ((c.def_ 32).imp fun _ z => He5.fun_of z)
  g__law_well := glo_ok X G (c.fact 61)
  d_law_well := ((c.def_ 33).imp fun _ z => He5.fun_of z)
  g__law_drawn := glo_ok X G (c.fact 62)
  d_law_drawn := ((c.def_ 34).imp fun _ z => He5.fun_of z)
  g__law_one_of := glo_ok X G (c.fact 63)
  d_law_one_of := ((c.def_ 35).imp fun _ z => He5.fun_of z)
  g__law_pair := glo_ok X G (c.fact 64)
  d_law_pair := ((c.def_ 36).imp fun _ z => He5.fun_of z)
  g__law_pairs := glo_ok X G (c.fact 65)
  d_law_pairs := ((c.def_ 37).imp fun _ z => He5.fun_of z)
  g__law_saying := glo_ok X G (c.fact 66)
  d_law_saying := ((c.def_ 38).imp fun _ z => He5.fun_of z)
  g__law_marks := glo_ok X G (c.fact 67)
  d_law_marks := ((c.def_ 39).imp fun _ z => He5.fun_of z)
  g__law_ratio := glo_ok X G (c.fact 68)
  d_law_ratio := ((c.def_ 40).imp fun _ z => He5.fun_of z)
  g__law_weight := glo_ok X G (c.fact 69)
  d_law_weight := ((c.def_ 41).imp fun _ z => He5.fun_of z)
  g__law_doubt := glo_ok X G (c.fact 70)
  d_law_doubt := ((c.def_ 42).imp fun _ z => He5.fun_of z)
  g__law_numbers := glo_ok X G (c.fact 71)
  d_law_numbers := ((c.def_ 43).imp fun _ z => He5.fun_of z)
  g__law_above := glo_ok X G (c.fact 72)
  d_law_above := ((c.def_ 44).imp fun _ z => He5.fun_of z)
  g__law_sum := glo_ok X G (c.fact 73)
  d_law_sum := ((c.def_ 45).imp fun _ z => He5.fun_of z)
  g__law_joined := glo_ok X G (c.fact 74)
  d_law_joined := ((c.def_ 46).imp fun _ z => He5.fun_of z)
  g__law_sharp := glo_ok X G (c.fact 75)
  d_law_sharp := ((c.def_ 47).imp fun _ z => He5.fun_of z)
  g__law_yields := glo_ok X G (c.fact 76)
  d_law_yields := ((c.def_ 48).imp fun _ z => He5.fun_of z)
  g__law_further := glo_ok X G (c.fact 77)
  d_law_further := ((c.def_ 49).imp fun _ z => He5.fun_of z)
  g__law_filled := glo_ok X G (c.fact 78)
  d_law_filled := ((c.def_ 50).imp fun _ z => He5.fun_of z)
  g__law_lot_word := glo_ok X G (c.fact 79)
  d_law_lot_word := ((c.def_ 51).imp fun _ z => He5.fun_of z)
  g__law_exceeds_word := glo_ok X G (c.fact 80)
  d_law_exceeds_word := ((c.def_ 52).imp fun _ z => He5.fun_of z)
  g__law_bounded_right := glo_ok X G (c.fact 81)
  d_law_bounded_right := ((c.def_ 53).imp fun _ z => He5.fun_of z)
  g__law_exceeds_right := glo_ok X G (c.fact 82)
  d_law_exceeds_right := ((c.def_ 54).imp fun _ z => He5.fun_of z)
  g__law_judged := glo_ok X G (c.fact 83)
  d_law_judged := ((c.def_ 55).imp fun _ z => He5.fun_of z)
  g_law := glo_ok X G (c.fact 84)
  d_law := ((c.def_ 56).imp fun _ z => He5.fun_of z)
  g_Weights := glo_ok X G (c.fact 85)
  c_Weights := cls_ok (c.fact 86)
  mk_Weights := mkr_ok (c.fact 87)
  f_Weights_init := ((c.def_ 57).imp fun _ z => He5.fun_of z)
  n_Weights_numbers := noat_ok (c.fact 88)
  m_Weights_picked := meth_ok (c.fact 89)
  f_Weights_picked := ((c.def_ 58).imp fun _ z => He5.fun_of z)
  m_Weights_of := meth_ok (c.fact 90)
  f_Weights_of := ((c.def_ 59).imp fun _ z => He5.fun_of z)
  m_Weights_len := meth_ok (c.fact 91)
  f_Weights_len := ((c.def_ 60).imp fun _ z => He5.fun_of z)
  g_Order := glo_ok X G (c.fact 92)
  c_Order := cls_ok (c.fact 93)
  mk_Order := mkr_ok (c.fact 94)
  f_Order_init := ((c.def_ 61).imp fun _ z => He5.fun_of z)
  n_Order_layers := noat_ok (c.fact 95)
  g_Lifted := glo_ok X G (c.fact 96)
  c_Lifted := cls_ok (c.fact 97)
  mk_Lifted := mkr_ok (c.fact 98)
  f_Lifted_init := ((c.def_ 62).imp fun _ z => He5.fun_of z)
  n_Lifted_order := noat_ok (c.fact 99)
  n_Lifted_reasons := noat_ok (c.fact 100)
  n_Lifted_heights := noat_ok (c.fact 101)
  g_Stuck := glo_ok X G (c.fact 102)
  c_Stuck := cls_ok (c.fact 103)
  mk_Stuck := mkr_ok (c.fact 104)
  f_Stuck_init := ((c.def_ 63).imp fun _ z => He5.fun_of z)
  n_Stuck_days := noat_ok (c.fact 105)
  n_Stuck_reasons := noat_ok (c.fact 106)
  n_Stuck_heights := noat_ok (c.fact 107)
  g_Lifting := glo_ok X G (c.fact 108)
  c_Lifting := cls_ok (c.fact 109)
  mk_Lifting := mkr_ok (c.fact 110)
  f_Lifting_init := ((c.def_ 64).imp fun _ z => He5.fun_of z)
  n_Lifting_rows := noat_ok (c.fact 111)
  n_Lifting_start := noat_ok (c.fact 112)
  n_Lifting_layers := noat_ok (c.fact 113)
  n_Lifting_reasons := noat_ok (c.fact 114)
  n_Lifting_heights := noat_ok (c.fact 115)
  n_Lifting_known := noat_ok (c.fact 116)
  m_Lifting_open_days := meth_ok (c.fact 117)
  f_Lifting_open_days := ((c.def_ 65).imp fun _ z => He5.fun_of z)
  m_Lifting_settle := meth_ok (c.fact 118)
  f_Lifting_settle := ((c.def_ 66).imp fun _ z => He5.fun_of z)
  m_Lifting_run := meth_ok (c.fact 119)
  f_Lifting_run := ((c.def_ 67).imp fun _ z => He5.fun_of z)
  g_Saying := glo_ok X G (c.fact 120)
  c_Saying := cls_ok (c.fact 121)
  mk_Saying := mkr_ok (c.fact 122)
  f_Saying_init := (c.def_ 68)
  n_Saying_where := noat_ok (c.fact 123)
  n_Saying_then := noat_ok (c.fact 124)
  n_Saying_usual := noat_ok (c.fact 125)
  n_Saying_confirm := noat_ok (c.fact 126)
  n_Saying_broken := noat_ok (c.fact 127)
  n_Saying_low := noat_ok (c.fact 128)
  n_Saying_high := noat_ok (c.fact 129)
  n_Saying_step := noat_ok (c.fact 130)
  m_Saying_contrary := meth_ok (c.fact 131)
  f_Saying_contrary := ((c.def_ 69).imp fun _ z => He5.fun_of z)
  m_Saying_flipped := meth_ok (c.fact 132)
  f_Saying_flipped := ((c.def_ 70).imp fun _ z => He5.fun_of z)
  g_Verdicts := glo_ok X G (c.fact 133)
  c_Verdicts := cls_ok (c.fact 134)
  mk_Verdicts := mkr_ok (c.fact 135)
  f_Verdicts_init := ((c.def_ 71).imp fun _ z => He5.fun_of z)
  n_Verdicts_confirm := noat_ok (c.fact 136)
  n_Verdicts_broken := noat_ok (c.fact 137)
  m_Verdicts_add := meth_ok (c.fact 138)
  f_Verdicts_add := ((c.def_ 72).imp fun _ z => He5.fun_of z)
  g_Bounded := glo_ok X G (c.fact 139)
  c_Bounded := cls_ok (c.fact 140)
  mk_Bounded := mkr_ok (c.fact 141)
  f_Bounded_init := ((c.def_ 73).imp fun _ z => He5.fun_of z)
  n_Bounded_lot := noat_ok (c.fact 142)
  g_Exceeds := glo_ok X G (c.fact 143)
  c_Exceeds := cls_ok (c.fact 144)
  mk_Exceeds := mkr_ok (c.fact 145)
  f_Exceeds_init := ((c.def_ 74).imp fun _ z => He5.fun_of z)
  n_Exceeds_weights := noat_ok (c.fact 146)
  g_Marks := glo_ok X G (c.fact 147)
  c_Marks := cls_ok (c.fact 148)
  mk_Marks := mkr_ok (c.fact 149)
  f_Marks_init := ((c.def_ 75).imp fun _ z => He5.fun_of z)
  n_Marks_names := noat_ok (c.fact 150)
  n_Marks_count := noat_ok (c.fact 151)
  n_Marks_days := noat_ok (c.fact 152)
  n_Marks_all_days := noat_ok (c.fact 153)
  g_Book := glo_ok X G (c.fact 154)
  c_Book := cls_ok (c.fact 155)
  mk_Book := mkr_ok (c.fact 156)
  f_Book_init := ((c.def_ 76).imp fun _ z => He5.fun_of z)
  n_Book_marks := noat_ok (c.fact 157)
  n_Book_sayings := noat_ok (c.fact 158)
  m_Book_len := meth_ok (c.fact 159)
  f_Book_len := ((c.def_ 77).imp fun _ z => He5.fun_of z)
  m_Book_iter := meth_ok (c.fact 160)
  f_Book_iter := ((c.def_ 78).imp fun _ z => He5.fun_of z)
  m_Book_getitem := meth_ok (c.fact 161)
  f_Book_getitem := ((c.def_ 79).imp fun _ z => He5.fun_of z)
  g_Told := glo_ok X G (c.fact 162)
  c_Told := cls_ok (c.fact 163)
  mk_Told := mkr_ok (c.fact 164)
  f_Told_init := ((c.def_ 80).imp fun _ z => He5.fun_of z)
  n_Told_stuck := noat_ok (c.fact 165)
  g_NotTold := glo_ok X G (c.fact 166)
  c_NotTold := cls_ok (c.fact 167)
  mk_NotTold := mkr_ok (c.fact 168)
  f_NotTold_init := ((c.def_ 81).imp fun _ z => He5.fun_of z)
  n_NotTold_order := noat_ok (c.fact 169)
  ic_Bounded := icls_ok (c.bool 4)
  ic_Exceeds := icls_ok (c.bool 5)
  ic_Lifted := icls_ok (c.bool 6)
  ic_Marks := icls_ok (c.bool 7)
  ic_NotTold := icls_ok (c.bool 8)
  ic_Saying := icls_ok (c.bool 9)
  ic_Stuck := icls_ok (c.bool 10)
  ic_Told := icls_ok (c.bool 11)
  ic_Weights := icls_ok (c.bool 12)
  x_Book_getitem := (c.bool 13)
  x_Book_noseq := (c.bool 14)
  x_Verdicts_first := (c.bool 15)
  r_Verdicts := cread_ok (c.bool 16)
  m_Verdicts_none := He5.cmet_of (c.bool 17) (c.bool 18)
  f_Verdicts_none := ((c.def_ 82).imp fun _ z => He5.fun_of z)
  m_Book_first_need_not := prop_ok (c.bool 19)
  f_Book_first_need_not := ((c.def_ 83).imp fun _ z => He5.fun_of z)
  i_Marks_Marks := of_decide_eq_true (c.bool 20)
  i_Saying_Saying := of_decide_eq_true (c.bool 21)
  i_Stuck_Stuck := of_decide_eq_true (c.bool 22)
  i_Lifted_Stuck := of_decide_eq_true (c.bool 23)
  i_Told_Told := of_decide_eq_true (c.bool 24)
  i_NotTold_Told := of_decide_eq_true (c.bool 25)
  i_Exceeds_Exceeds := of_decide_eq_true (c.bool 26)
  i_Bounded_Exceeds := of_decide_eq_true (c.bool 27)
  i_Bounded_Bounded := of_decide_eq_true (c.bool 28)
  i_Exceeds_Bounded := of_decide_eq_true (c.bool 29)
  i_Weights_Weights := of_decide_eq_true (c.bool 30)
abbrev R : PySem.W.OpenRow := PySem.W.OpenLaw.row PySem.Challenge.rw_usualdays_k46_whole_sums_of_doubts_for_a
abbrev qv : Program := PySem.W.view R.prog [0, 122]
def hnm0 : List PySem.Str := ["_wall",
  "days_in",
  "set_of",
  "within",
  "DaysError",
  "BadRatio",
  "BadMarks",
  "NoMark",
  "NoDay",
  "BadSaying",
  "BadVerdicts",
  "BadBook",
  "NoSaying",
  "BadLot",
  "OtherDays",
  "NeedNot",
  "BadOrder",
  "BadStart",
  "BadWeights",
  "BadStep",
  "is_whole",
  "ratio",
  "compare_ratios",
  "ratio_sum",
  "check_days",
  "check_days_doubts",
  "check_usual",
  "plain_doubt",
  "doubts_of",
  "doubt_sum"]
def hnm1 : List PySem.Str := ["SIZES",
  "is_weight",
  "Weights",
  "check_asked",
  "COUNTS",
  "HIGHEST",
  "checked_layers",
  "check_days_orders",
  "check_same_days",
  "first_not_kept",
  "Order",
  "Lifted",
  "Stuck",
  "all_sayings",
  "first_reason",
  "Lifting",
  "lifting_of",
  "lift",
  "lifted_layers",
  "big_steps",
  "ALL_BITS",
  "LAST_DAY",
  "Saying",
  "Verdicts",
  "verdicts_of",
  "joined",
  "sharper",
  "MOST_PARTS",
  "Bounded",
  "Exceeds"]
def hnm2 : List PySem.Str := ["sum_bound",
  "sum_fault",
  "LETTERS",
  "KEPT_WORDS",
  "MOST_MARKS",
  "LONGEST_NAME",
  "name_fault",
  "Marks",
  "MOST_SAYINGS",
  "check_lot",
  "Book",
  "Told",
  "NotTold",
  "check_saying_days",
  "tell",
  "check_all_usual",
  "is_sharp",
  "widest_lot",
  "sharp_lot",
  "_law_power",
  "_law_well",
  "_law_drawn",
  "_law_one_of",
  "_law_pair",
  "_law_pairs",
  "_law_saying",
  "_law_marks",
  "_law_ratio",
  "_law_weight",
  "_law_doubt"]
def hnm3 : List PySem.Str := ["_law_numbers",
  "_law_above",
  "_law_sum",
  "_law_joined",
  "_law_sharp",
  "_law_yields",
  "_law_further",
  "_law_filled",
  "_law_lot_word",
  "_law_exceeds_word",
  "_law_bounded_right",
  "_law_exceeds_right",
  "_law_judged"]
def hnm : List PySem.Str := hnm0 ++ (hnm1 ++ (hnm2 ++ (hnm3)))
abbrev hk : PySem.W.Hook := hookX 5 hfa hfn hxb
def ob (s : PySem.W.SharedT) : AlD := obsXG 5 hfa hfn hxb (HandSHeadRun.getT s)
theorem ob_eq (s : PySem.W.SharedT) : ob s = hk.obs s.abs := obsXG_eq (HandSHeadRun.getT_eq s)
end U
set_option maxHeartbeats 0
namespace U
open He PySem PySem.W PySem.Calls PyProof.Rows
/-! ### the head's run, in five kernel runs: each is some 11 GB, all at once are more than the hand-in's 12 -/
noncomputable abbrev whole (w : World) := HandSHeadRun.wholeF (fun p => HandSHeadRun.stepQ (HandSHeadRun.denQ HandSHeadRun.tabQ) p w) HandSHeadRun.fenceQ 20000 R.prog
theorem joined5 {α β γ δ : Type} {o : Option α} {f : α → β} {g : α → γ} {e1 e2 e3 e : α → δ} {b : β} {u : γ} {c1 c2 c3 v : δ} (hf : o.map f = some b) (hg : o.map g = some u) (h1 : o.map e1 = some c1) (h2 : o.map e2 = some c2) (h3 : o.map e3 = some c3)
    (h : ∀ x, e1 x = c1 → e2 x = c2 → e3 x = c3 → e x = v) : o.map (fun x => (f x, g x, e x)) = some (b, u, v) := by
  cases o with
  | none => cases hf
  | some x =>
    show some (f x, g x, e x) = some (b, u, v)
    rw [h x (Option.some.inj h1) (Option.some.inj h2) (Option.some.inj h3), show f x = b from Option.some.inj hf, show g x = u from Option.some.inj hg]
theorem ob_all {g : Addr → Option Obj} {n : Nat} {fa : List Fa} {fn fm : List He5.DefA} {xb : List (PySem.W.Frag → Bool)} (h1 : obsXG n fa [] [] g = He5.valA []) (h2 : obsXG n [] fn xb g = He5.valA fn) (h3 : obsXG n [] fm [] g = He5.valA fm) : obsXG n fa (fn ++ fm) xb g = He5.valA (fn ++ fm) := by
  have a1 : ((fa.all fun f => f.ok (frG g (asY g n))) && true) = true := congrArg (fun t : AlD => t.1) h1
  have a2 : (true && ((fn.all fun d => d.ok (frG g (asY g n))) && xb.all fun b => b (frG g (asY g n)))) = true := congrArg (fun t : AlD => t.1) h2
  have a3 : (true && ((fm.all fun d => d.ok (frG g (asY g n))) && true)) = true := congrArg (fun t : AlD => t.1) h3
  have b2 : (fn.map fun d => He5.fnA (frG g (asY g n)) (d.at_ (frG g (asY g n)))) = fn.map He5.DefA.val := congrArg (fun t : AlD => t.2) h2
  have b3 : (fm.map fun d => He5.fnA (frG g (asY g n)) (d.at_ (frG g (asY g n)))) = fm.map He5.DefA.val := congrArg (fun t : AlD => t.2) h3
  obtain ⟨k1, _⟩ := ba a1
  obtain ⟨_, k2⟩ := ba a2
  obtain ⟨k2, k3⟩ := ba k2
  obtain ⟨_, k4⟩ := ba a3
  obtain ⟨k4, _⟩ := ba k4
  show (((fa.all fun f => f.ok (frG g (asY g n))) && (((fn ++ fm).all fun d => d.ok (frG g (asY g n))) && xb.all fun b => b (frG g (asY g n)))), (fn ++ fm).map fun d => He5.fnA (frG g (asY g n)) (d.at_ (frG g (asY g n)))) = (true, (fn ++ fm).map He5.DefA.val)
  rw [List.all_append, List.map_append, List.map_append, k1, k2, k3, k4, b2, b3]
  rfl
def hfnA : List He5.DefA := hfn.take 40
def hfnB : List He5.DefA := hfn.drop 40
def ob1 (s : PySem.W.SharedT) : AlD := obsXG 5 hfa [] [] (HandSHeadRun.getT s)
def ob2 (s : PySem.W.SharedT) : AlD := obsXG 5 [] hfnA hxb (HandSHeadRun.getT s)
def ob3 (s : PySem.W.SharedT) : AlD := obsXG 5 [] hfnB [] (HandSHeadRun.getT s)
theorem run_looks (w : World) : (whole w).map (fun x => HandSHeadRun.looksF R.prog x.1.heap x.2.abs) = some true := by
  kernel_rfl
theorem run_seen (w : World) : (whole w).map (fun x => HandSHeadRun.seenQ qv hnm (importedModules R.prog.main.body) (fun s => xlAt qv [] s && recOk R.toRowW.records s) x.2.abs) = some (openGood qv hnm) := by
  kernel_rfl
theorem run_facts (w : World) : (whole w).map (fun x => ob1 x.2) = some (He5.valA []) := by
  kernel_rfl
theorem run_defsA (w : World) : (whole w).map (fun x => ob2 x.2) = some (He5.valA hfnA) := by
  kernel_rfl
theorem run_defsB (w : World) : (whole w).map (fun x => ob3 x.2) = some (He5.valA hfnB) := by
  kernel_rfl
theorem run (w : World) : HandSHeadRun.RunEqI R qv hk ob 20000 hnm w := joined5 (run_looks w) (run_seen w) (run_facts w) (run_defsA w) (run_defsB w) fun x h1 h2 h3 => by
  have t := ob_all h1 h2 h3
  unfold hfnA hfnB at t
  rw [List.take_append_drop 40 hfn] at t
  exact t
end U
set_option maxHeartbeats 4100000
namespace UM
/-! ### the lifting, layer by layer -/
def openL (l : Lay) : List Nat := fm (fun i x => if x = none then some i else none) l
theorem mem_openL {l : Lay} {d : Nat} : d ∈ openL l ↔ d < l.length ∧ lay l d = none := by
  unfold openL
  rw [mem_fm]
  constructor
  · rintro ⟨k, x, h1, h2⟩
    split at h2
    · rename_i hx
      cases h2
      refine ⟨(List.getElem?_eq_some_iff.mp h1).1, ?_⟩
      unfold lay
      rw [h1, hx]
      rfl
    · cases h2
  · rintro ⟨h1, h2⟩
    refine ⟨d, l[d], List.getElem?_eq_getElem h1, ?_⟩
    unfold lay at h2
    rw [List.getElem?_eq_getElem h1] at h2
    have h3 : l[d] = none := h2
    rw [if_pos h3]
theorem fmI_nodup {α : Type} {f : Nat → α → Option Nat} (hf : ∀ i x y, f i x = some y → y = i) : ∀ (xs : List α) (i : Nat), (fmI f i xs).Nodup
  | [], _ => List.nodup_nil
  | x :: xs, i => by
    have ih := fmI_nodup hf xs (i + 1)
    show ((f i x).toList ++ _).Nodup
    cases e : f i x with
    | none => simpa using ih
    | some y =>
      have hy := hf i x y e
      subst hy
      show (y :: fmI f (y + 1) xs).Nodup
      refine List.nodup_cons.mpr ⟨fun hm => ?_, ih⟩
      obtain ⟨k, z, h1, h2⟩ := mem_fmI.mp hm
      have := hf _ _ _ h2
      omega
theorem openL_nodup (l : Lay) : (openL l).Nodup := fmI_nodup (fun i x y h => by split at h <;> cases h; rfl) l 0
/-- the rows' test on masks -/
def blkM (r : Row) (d known staying : Nat) : Bool := r.2.1.testBit d && r.1 &&& (if r.2.2 = 1 then known else known ||| staying) == 0
theorem blkM_iff {r : Row} {d known staying : Nat} {l : Lay} {ds : List Nat} (hk : ∀ e, known.testBit e = (lay l e).isSome) (hs : ∀ e, staying.testBit e = true ↔ e ∈ ds) :
    blkM r d known staying = true ↔ r.2.1.testBit d = true ∧ ∀ e, r.1.testBit e = true → lay l e = none ∧ (r.2.2 = 1 ∨ ¬ e ∈ ds) := by
  unfold blkM
  rw [Bool.and_eq_true, beq_iff_eq]
  refine and_congr_right fun _ => ?_
  have kn : ∀ e, known.testBit e = true ↔ lay l e ≠ none := fun e => by
    rw [hk e]
    cases lay l e <;> simp
  constructor
  · intro h e he
    have hz : (r.1 &&& (if r.2.2 = 1 then known else known ||| staying)).testBit e = false := by rw [h, Nat.zero_testBit]
    rw [Nat.testBit_and, he, Bool.true_and] at hz
    by_cases c : r.2.2 = 1
    · rw [if_pos c] at hz
      refine ⟨Classical.byContradiction fun q => ?_, .inl c⟩
      rw [(kn e).mpr q] at hz
      cases hz
    · rw [if_neg c, Nat.testBit_or, Bool.or_eq_false_iff] at hz
      refine ⟨Classical.byContradiction fun q => ?_, .inr fun q => ?_⟩
      · rw [(kn e).mpr q] at hz
        exact absurd hz.1 (by simp)
      · rw [(hs e).mpr q] at hz
        exact absurd hz.2 (by simp)
  · intro h
    apply Nat.eq_of_testBit_eq
    intro e
    rw [Nat.testBit_and, Nat.zero_testBit]
    cases q : r.1.testBit e with
    | false => rfl
    | true =>
      obtain ⟨h1, h2⟩ := h e q
      have k0 : known.testBit e = false := by rw [hk e, h1]; rfl
      by_cases c : r.2.2 = 1
      · rw [if_pos c, k0]; rfl
      · rw [if_neg c, Nat.testBit_or, k0]
        cases z : staying.testBit e with
        | false => rfl
        | true => exact absurd ((hs e).mp z) (h2.resolve_left c)
def blkS (rows : List Row) (d known staying : Nat) : Bool := rows.any fun r => blkM r d known staying
theorem blkS_iff {rows : List Row} {d known staying : Nat} {l : Lay} {ds : List Nat} (hk : ∀ e, known.testBit e = (lay l e).isSome) (hs : ∀ e, staying.testBit e = true ↔ e ∈ ds) :
    blkS rows d known staying = true ↔ Blk rows l (fun e => e ∈ ds) d := by
  unfold blkS Blk
  rw [List.any_eq_true]
  exact ⟨fun ⟨r, h1, h2⟩ => ⟨r, h1, (blkM_iff hk hs).mp h2⟩, fun ⟨r, h1, h2⟩ => ⟨r, h1, (blkM_iff hk hs).mpr h2⟩⟩
/-- a set of open days none of which is held back -/
def Closed (rows : List Row) (l : Lay) (T : Nat → Prop) : Prop := (∀ d, T d → d < l.length ∧ lay l d = none) ∧ ∀ d, T d → ¬ Blk rows l T d
/-- the days at hand hold every such set -/
def Holds (rows : List Row) (l : Lay) (ds : List Nat) : Prop := (∀ d ∈ ds, d < l.length ∧ lay l d = none) ∧ ds.Nodup ∧ ∀ T, Closed rows l T → ∀ d, T d → d ∈ ds
theorem holds_open (rows : List Row) (l : Lay) : Holds rows l (openL l) := ⟨fun _ h => mem_openL.mp h, openL_nodup l, fun _ h d hd => mem_openL.mpr (h.1 d hd)⟩
theorem Blk.sub {rows : List Row} {l : Lay} {T S : Nat → Prop} {d : Nat} (h : Blk rows l S d) (ts : ∀ e, T e → S e) : Blk rows l T d := by
  obtain ⟨r, h1, h2, h3⟩ := h
  exact ⟨r, h1, h2, fun e he => ⟨(h3 e he).1, (h3 e he).2.imp id fun q w => q (ts e w)⟩⟩
theorem holds_step {rows : List Row} {l : Lay} {ds : List Nat} (h : Holds rows l ds) {p : Nat → Bool} (hp : ∀ d, p d = true ↔ Blk rows l (fun e => e ∈ ds) d) : Holds rows l (ds.filter fun d => !p d) := by
  refine ⟨fun d hd => h.1 d (List.mem_filter.mp hd).1, h.2.1.filter _, fun T hT d hd => List.mem_filter.mpr ⟨h.2.2 T hT d hd, ?_⟩⟩
  cases e : p d with
  | false => rfl
  | true => exact absurd (((hp d).mp e).sub fun x hx => h.2.2 T hT x hx) (hT.2 d hd)
/-- what settling layer v finds -/
structure Found (rows : List Row) (l : Lay) (ds : List Nat) : Prop where
  here : ∀ d ∈ ds, d < l.length ∧ lay l d = none
  free : ∀ d ∈ ds, ¬ Blk rows l (fun e => e ∈ ds) d
  all : ∀ T, Closed rows l T → ∀ d, T d → d ∈ ds
  nd : ds.Nodup
theorem found_of {rows : List Row} {l : Lay} {ds : List Nat} (h : Holds rows l ds) {p : Nat → Bool} (hp : ∀ d, p d = true ↔ Blk rows l (fun e => e ∈ ds) d) (h0 : ds.filter p = []) : Found rows l (ds.filter fun d => !p d) := by
  have e : ds.filter (fun d => !p d) = ds := by
    rw [List.filter_eq_self]
    intro d hd
    have := List.filter_eq_nil_iff.mp h0 d hd
    simpa using this
  rw [e]
  exact ⟨h.1, fun d hd q => (List.filter_eq_nil_iff.mp h0 d hd) ((hp d).mpr q), h.2.2, h.2.1⟩
def setAll (l : Lay) (ds : List Nat) (v : Nat) : Lay := ds.foldl (fun l d => l.set d (some v)) l
theorem setAll_length (ds : List Nat) (v : Nat) : ∀ l : Lay, (setAll l ds v).length = l.length := by
  induction ds with
  | nil => intro l; rfl
  | cons d r ih => intro l; show (setAll (l.set d (some v)) r v).length = _; rw [ih, List.length_set]
theorem lay_set {l : Lay} {d e v : Nat} (hd : d < l.length) : lay (l.set d (some v)) e = if e = d then some v else lay l e := by
  unfold lay
  by_cases h : e = d
  · subst h
    rw [if_pos rfl, List.getElem?_set_self hd]
    rfl
  · rw [if_neg h, List.getElem?_set_ne (fun q => h q.symm)]
theorem lay_setAll (ds : List Nat) (v e : Nat) : ∀ l : Lay, (∀ d ∈ ds, d < l.length) → lay (setAll l ds v) e = if e ∈ ds then some v else lay l e := by
  induction ds with
  | nil => intro l _; simp [setAll]
  | cons d r ih =>
    intro l h
    have hd := h d List.mem_cons_self
    show lay (setAll (l.set d (some v)) r v) e = _
    rw [ih _ (fun x hx => by rw [List.length_set]; exact h x (List.mem_cons_of_mem _ hx)), lay_set hd]
    by_cases h1 : e ∈ r
    · rw [if_pos h1, if_pos (List.mem_cons_of_mem _ h1)]
    · rw [if_neg h1]
      by_cases h2 : e = d
      · rw [if_pos h2, if_pos (by rw [h2]; exact List.mem_cons_self)]
      · rw [if_neg h2, if_neg (fun q => (List.mem_cons.mp q).elim h2 h1)]
/-- the number of days that have a layer -/
def nSet (l : Lay) : Nat := l.length - (openL l).length
/-- between two layers: all up to a is settled -/
structure Run (rows : List Row) (l : Lay) (a : Nat) : Prop where
  below : ∀ d v, lay l d = some v → v < a
  sound : SoundA rows l
  zero : a = 0 ∨ ∃ d, lay l d = some 0
  count : a + (openL l).length ≤ l.length
theorem openL_start (n : Nat) : (openL (List.replicate n none)).length ≤ n := by
  have := fm_len (fun i (x : Option Nat) => if x = none then some i else none) (List.replicate n none)
  simpa [openL] using this
theorem lay_start {n d : Nat} : lay (List.replicate n none) d = none := by
  unfold lay
  rw [List.getElem?_replicate]
  split <;> rfl
theorem run_start (rows : List Row) (n : Nat) : Run rows (List.replicate n none) 0 :=
  ⟨fun d v h => (by rw [lay_start] at h; cases h), fun d v h => (by rw [lay_start] at h; cases h), .inl rfl, by rw [Nat.zero_add, List.length_replicate]; exact openL_start n⟩
theorem len_le_of {α : Type} [DecidableEq α] : ∀ {xs ys : List α}, xs.Nodup → (∀ x ∈ xs, x ∈ ys) → xs.length ≤ ys.length
  | [], _, _, _ => (Nat.zero_le _)
  | x :: xs, ys, hn, h => by
    have hx := h x List.mem_cons_self
    obtain ⟨h1, h2⟩ := (List.nodup_cons.mp hn)
    have := len_le_of (xs := xs) (ys := ys.erase x) h2 fun z hz => (List.mem_erase_of_ne fun e => h1 (by rw [e] at hz; exact hz)).mpr (h z (List.mem_cons_of_mem _ hz))
    rw [List.length_erase_of_mem hx] at this
    have : 0 < ys.length := List.length_pos_of_mem hx
    rw [List.length_cons]
    omega
theorem run_step {rows : List Row} {l : Lay} {a : Nat} {ds : List Nat} (R : Run rows l a) (F : Found rows l ds) (hne : ds ≠ []) (h1 : ∀ r ∈ rows, r.2.2 = 0 ∨ r.2.2 = 1) : Run rows (setAll l ds a) (a + 1) := by
  have lt : ∀ d ∈ ds, d < l.length := fun d hd => (F.here d hd).1
  have L := fun e => lay_setAll ds a e l lt
  refine ⟨fun d v h => ?_, fun d v h r hr hh => ?_, .inr ?_, ?_⟩
  · rw [L] at h
    split at h
    · cases h; omega
    · have := R.below d v h; omega
  · rw [L] at h
    split at h
    · rename_i hd
      cases h
      have nb := F.free d hd
      have : ¬ ∀ e, r.1.testBit e = true → lay l e = none ∧ (r.2.2 = 1 ∨ ¬ e ∈ ds) := fun q => nb ⟨r, hr, hh, q⟩
      obtain ⟨e, he⟩ := Classical.not_forall.mp this
      obtain ⟨he1, he2⟩ := Classical.not_imp.mp he
      cases q : lay l e with
      | some u =>
        have hu := R.below e u q
        refine ⟨e, u, he1, ?_, ?_⟩
        · rw [L, if_neg (fun z => by have := (F.here e z).2; rw [q] at this; cases this), q]
        · have := h1 r hr; omega
      | none =>
        have hne : ¬ (r.2.2 = 1 ∨ ¬ e ∈ ds) := fun z => he2 ⟨q, z⟩
        have hin : e ∈ ds := Classical.byContradiction fun z => hne (.inr z)
        have h0 : r.2.2 = 0 := (h1 r hr).resolve_right fun z => hne (.inl z)
        exact ⟨e, a, he1, by rw [L, if_pos hin], by omega⟩
    · obtain ⟨e, u, h2, h3, h4⟩ := R.sound d v h r hr hh
      refine ⟨e, u, h2, ?_, h4⟩
      rw [L, if_neg (fun z => by have := (F.here e z).2; rw [h3] at this; cases this), h3]
  · rcases R.zero with h | ⟨d, hd⟩
    · obtain ⟨d, hd⟩ := List.exists_mem_of_ne_nil ds hne
      exact ⟨d, by rw [L, if_pos hd, h]⟩
    · refine ⟨d, ?_⟩
      rw [L, if_neg (fun z => by have := (F.here d z).2; rw [hd] at this; cases this), hd]
  · rw [setAll_length]
    have hc := R.count
    have hlt : (openL (setAll l ds a)).length + 1 ≤ (openL l).length := by
      obtain ⟨x, hx⟩ := List.exists_mem_of_ne_nil ds hne
      have hx0 : x ∉ openL (setAll l ds a) := fun z => by
        have := (mem_openL.mp z).2
        rw [L, if_pos hx] at this
        cases this
      have := len_le_of (xs := x :: openL (setAll l ds a)) (ys := openL l) (List.nodup_cons.mpr ⟨hx0, openL_nodup _⟩) fun z hz => by
        rcases List.mem_cons.mp hz with q | q
        · rw [q]; exact mem_openL.mpr (F.here x hx)
        · obtain ⟨q1, q2⟩ := mem_openL.mp q
          rw [setAll_length] at q1
          rw [L] at q2
          split at q2
          · cases q2
          · exact mem_openL.mpr ⟨q1, q2⟩
      simpa using this
    omega
theorem run_end {rows : List Row} {l : Lay} (F : Found rows l []) : StuckB rows l := by
  intro T hT hsub
  apply Classical.byContradiction
  intro no
  obtain ⟨d, hd⟩ := hT
  have := F.all T ⟨hsub, fun e he q => no ⟨e, he, q⟩⟩ d hd
  cases this
/-- what a lifting that has run tells -/
structure Done (rows : List Row) (n : Nat) (l : Lay) : Prop where
  len : l.length = n
  sound : SoundA rows l
  stuck : StuckB rows l
  zero : (∀ d, lay l d = none) ∨ ∃ d, lay l d = some 0
  small : ∀ d v, lay l d = some v → v < n
theorem done_of {rows : List Row} {l : Lay} {a n : Nat} (R : Run rows l a) (F : Found rows l []) (h : l.length = n) : Done rows n l := by
  refine ⟨h, R.sound, run_end F, R.zero.imp (fun z d => ?_) id, fun d v hv => ?_⟩
  · cases e : lay l d with
    | none => rfl
    | some v => have := R.below d v e; omega
  · have := R.below d v hv
    have := R.count
    omega
/-- a sum of powers is a mask -/
def maskL (ds : List Nat) : Nat := (ds.map fun d => 2 ^ d).sum
theorem or_add_and (m : Nat) : ∀ n : Nat, (m ||| n) + (m &&& n) = m + n := by
  induction (m) using Nat.strongRecOn with
  | _ m ih =>
    intro n
    by_cases h : m = 0
    · subst h; simp
    · have ih' := ih (m / 2) (Nat.div_lt_self (Nat.pos_of_ne_zero h) (by decide)) (n / 2)
      rw [← Nat.or_div_two, ← Nat.and_div_two ] at ih'
      have o1 := (@Nat.or_mod_two_eq_one m n)
      have a1 := (@Nat.and_mod_two_eq_one m n)
      omega
theorem tb_add_pow {m d e : Nat} (h : m.testBit d = false) : (m + 2 ^ d).testBit e = (m.testBit e || decide (e = d)) := by
  have hor : m + 2 ^ d = m ||| 2 ^ d := by
    have hd : m &&& 2 ^ d = 0 := by
      apply Nat.eq_of_testBit_eq
      intro i
      rw [Nat.testBit_and, Nat.zero_testBit, Nat.testBit_two_pow]
      by_cases q : d = i
      · subst q; rw [h]; rfl
      · simp [q]
    have := or_add_and m (2 ^ d)
    omega
  rw [hor, Nat.testBit_or, Nat.testBit_two_pow]
  congr 1
  simp [eq_comm]
theorem tb_maskL {ds : List Nat} (h : ds.Nodup) : ∀ e : Nat, (maskL ds).testBit e = true ↔ e ∈ ds := by
  induction ds with
  | nil => intro e; simp [maskL]
  | cons d r ih =>
    intro e
    obtain ⟨h1, h2⟩ := (List.nodup_cons.mp h)
    have ih := ih h2
    have hs : maskL (d :: r) = maskL r + 2 ^ d := by unfold maskL; rw [List.map_cons, List.sum_cons, Nat.add_comm]
    have hf : (maskL r).testBit d = false := by
      cases q : (maskL r).testBit d with
      | false => rfl
      | true => exact absurd ((ih d).mp q) h1
    rw [hs, tb_add_pow hf, Bool.or_eq_true, ih, decide_eq_true_eq, List.mem_cons]
    exact Or.comm
theorem end_maskL (l : Lay) : EndOf l (maskL (openL l)) := fun d => by rw [tb_maskL (openL_nodup l), mem_openL]
/-- the same by or -/
def maskO (ds : List Nat) : Nat := ds.foldl (fun m d => m ||| 2 ^ d) 0
theorem tb_foldO (ds : List Nat) (e : Nat) : ∀ m : Nat, (ds.foldl (fun m d => m ||| 2 ^ d) m).testBit e = true ↔ m.testBit e = true ∨ e ∈ ds := by
  induction ds with
  | nil => intro m; simp
  | cons d r ih =>
    intro m
    show (r.foldl _ (m ||| 2 ^ d)).testBit e = true ↔ _
    rw [ih, Nat.testBit_or, Bool.or_eq_true, Nat.testBit_two_pow, decide_eq_true_eq, List.mem_cons, or_assoc]
    constructor
    · rintro (h | h | h)
      · exact .inl h
      · exact .inr (.inl h.symm)
      · exact .inr (.inr h)
    · rintro (h | h | h)
      · exact .inl h
      · exact .inr (.inl h.symm)
      · exact .inr (.inr h)
theorem end_maskO (l : Lay) : EndOf l (maskO (openL l)) := fun d => by
  unfold maskO
  rw [tb_foldO, Nat.zero_testBit, mem_openL]
  simp
theorem maskL_append (a b : List Nat) : maskL (a ++ b) = maskL a + maskL b := by unfold maskL; rw [List.map_append, List.sum_append]
end UM
set_option maxHeartbeats 4100000
namespace UM
/-! ### how large the numbers get -/
def SmallW (ns : List Nat) : Prop := ns.length ≤ 16 ∧ ∀ x ∈ ns, x < 2 ^ 396
theorem SmallW.wt {ns : List Nat} (h : SmallW ns) (m : Nat) : UM.wt ns m ≤ 2 ^ 400 := by
  refine Nat.le_trans (wt_bound (b := 2 ^ 396) fun x hx => Nat.le_of_lt (h.2 x hx)) ?_
  refine Nat.le_trans (Nat.mul_le_mul_right _ h.1) ?_
  rw [show (16 : Nat) = 2 ^ 4 from rfl, ← Nat.pow_add]
  exact Nat.le_refl _
theorem p2le {a b : Nat} (h : a ≤ b) : 2 ^ a ≤ 2 ^ b := Nat.pow_le_pow_right (by decide) h
theorem p2lt {a b : Nat} (h : a < b) : 2 ^ a < 2 ^ b := Nat.pow_lt_pow_right (by decide) h
theorem SmallW.dbt2 {ns : List Nat} (h : SmallW ns) (p : P) : (dbt ns p).2 < 2 ^ 402 := by
  have h1 := dbt_le2 ns p
  have h2 := h.wt p.1
  have h3 := h.wt p.2
  have e : 2 ^ 402 = 4 * 2 ^ 400 := by rw [show (4 : Nat) = 2 ^ 2 from rfl, ← Nat.pow_add]
  have : 1 < 2 ^ 400 := Nat.one_lt_two_pow (by decide)
  rw [e]
  generalize 2 ^ 400 = X at *
  omega
theorem SmallW.dbt1 {ns : List Nat} (h : SmallW ns) (p : P) : (dbt ns p).1 < 2 ^ 402 := Nat.lt_of_le_of_lt (dbt_le1 ns p) (h.dbt2 p)
theorem SmallW.sum {ns : List Nat} (h : SmallW ns) {ps : List P} (hp : ps.length ≤ 12) : (sumF ns ps).1 < 2 ^ 5000 ∧ (sumF ns ps).2 < 2 ^ 5000 := by
  obtain ⟨h2, h1⟩ := sumF_size (B := 2 ^ 400) h.wt ps
  have e1 : 1 + 2 * 2 ^ 400 ≤ 2 ^ 402 := by
    have e : 2 ^ 402 = 4 * 2 ^ 400 := by rw [show (4 : Nat) = 2 ^ 2 from rfl, ← Nat.pow_add]
    have : 1 < 2 ^ 400 := Nat.one_lt_two_pow (by decide)
    rw [e]
    generalize 2 ^ 400 = X at *
    omega
  have e2 : (1 + 2 * 2 ^ 400) ^ ps.length ≤ 2 ^ 4824 := by
    refine Nat.le_trans (Nat.pow_le_pow_left e1 _) ?_
    rw [← Nat.pow_mul]
    exact p2le (by omega)
  refine ⟨Nat.lt_of_le_of_lt h1 (Nat.lt_of_le_of_lt (Nat.mul_le_mul (show ps.length ≤ 2 ^ 4 by have : (2 : Nat) ^ 4 = 16 := rfl; omega) e2) ?_), Nat.lt_of_le_of_lt h2 (Nat.lt_of_le_of_lt e2 (p2lt (by decide)))⟩
  rw [← Nat.pow_add]
  exact p2lt (by decide)
theorem SmallW.lt {ns : List Nat} (h : SmallW ns) {k : Nat} (hk : 396 ≤ k) : ∀ x ∈ ns, x < 2 ^ k := fun x hx => Nat.lt_of_lt_of_le (h.2 x hx) (p2le hk)
theorem SmallW.take {ns : List Nat} (h : SmallW ns) {ps : List P} (hp : ps.length ≤ 12) (i : Nat) : (sumF ns (ps.take i)).1 < 2 ^ 5000 ∧ (sumF ns (ps.take i)).2 < 2 ^ 5000 := h.sum (by rw [List.length_take]; omega)
end UM
namespace UM
/-! ### the weights of big steps -/
def stepW (rs : List Int) (s : Nat) : Option Nat → Nat
  | none => 0
  | some v => s ^ rs.idxOf (v : Int)
theorem lay_of_get {l : Lay} {d : Nat} {o : Option Nat} (h : l[d]? = some o) : lay l d = o := by
  unfold lay
  rw [h]
  rfl
theorem steps_of {l : Lay} {rs : List Int} {s : Nat} (hs : 1 ≤ s) (hp : rs.Pairwise (fun a b => b < a)) (hm : ∀ d v, lay l d = some v → (v : Int) ∈ rs) : Steps l s (l.map (stepW rs s)) := by
  have get : ∀ d x, (l.map (stepW rs s))[d]? = some x → x = stepW rs s (lay l d) := fun d x h => by
    rw [List.getElem?_map] at h
    obtain ⟨o, h1, h2⟩ := Option.map_eq_some_iff.mp h
    rw [lay_of_get h1, h2]
  have pos : ∀ k : Nat, 0 < s ^ k := fun k => Nat.pow_pos (by omega)
  refine ⟨List.length_map .., fun d x h e => ?_, fun d x v h e => ?_, fun d e x y u v h1 h2 e1 e2 huv => ?_⟩
  · rw [get d x h, e]; rfl
  · rw [get d x h, e]; exact pos _
  · rw [get d x h1, get e y h2, e1, e2]
    show s ^ rs.idxOf (u : Int) * s ≤ s ^ rs.idxOf (v : Int)
    rw [← Nat.pow_succ]
    refine Nat.pow_le_pow_right hs ?_
    have iu := List.idxOf_lt_length_of_mem (hm d u e1)
    have iv := List.idxOf_lt_length_of_mem (hm e v e2)
    have gu := List.getElem_idxOf iu
    have gv := List.getElem_idxOf iv
    apply Classical.byContradiction
    intro no
    have hle : rs.idxOf (v : Int) ≤ rs.idxOf (u : Int) := by omega
    rcases Nat.lt_or_eq_of_le hle with h | h
    · have := List.pairwise_iff_getElem.mp hp _ _ iv iu h
      rw [gu, gv] at this
      omega
    · have : (v : Int) = u := by rw [← gv, ← gu]; congr 1
      omega
theorem steps_small {l : Lay} {rs : List Int} {s : Nat} (h24 : s < 2 ^ 24) (hs : 1 ≤ s) (hl : l.length ≤ 16) (hr : rs.length ≤ 16) (hm : ∀ d v, lay l d = some v → (v : Int) ∈ rs) : SmallW (l.map (stepW rs s)) := by
  refine ⟨by rw [List.length_map]; exact hl, fun x hx => ?_⟩
  obtain ⟨o, ho, rfl⟩ := List.mem_map.mp hx
  cases o with
  | none => exact Nat.two_pow_pos _
  | some v =>
    obtain ⟨d, hd, e⟩ := List.getElem_of_mem ho
    have hv := hm d v (lay_of_get (by rw [List.getElem?_eq_getElem hd, e]))
    have iv := List.idxOf_lt_length_of_mem hv
    refine Nat.lt_of_le_of_lt (Nat.pow_le_pow_left (Nat.le_of_lt h24) _) ?_
    rw [← Nat.pow_mul]
    exact p2lt (by omega)
end UM
namespace UM
theorem some_lay {l : Lay} {m E : Nat} (hE : EndOf l E) (hm : m < 2 ^ l.length) (h : ¬ Sub m E) : ∃ d v, lay l d = some v := by
  obtain ⟨x, hx1, hx2⟩ : ∃ x, m.testBit x = true ∧ E.testBit x ≠ true := by
    apply Classical.byContradiction
    intro no
    exact h fun x hx => Classical.byContradiction fun q => no ⟨x, hx, q⟩
  have xl := lt_of_tb hm hx1
  cases e : lay l x with
  | none => exact absurd ((hE x).mpr ⟨xl, e⟩) hx2
  | some u => exact ⟨x, u, e⟩
end UM
set_option maxHeartbeats 4100000
namespace UM
/-! ### ascending choices and the layers of lots -/
theorem fmI_asc {α : Type} {f : Nat → α → Option Nat} (hf : ∀ i x y, f i x = some y → y = i) : ∀ (xs : List α) (i : Nat), (fmI f i xs).Pairwise (fun a b => a < b) ∧ ∀ y ∈ fmI f i xs, i ≤ y
  | [], i => ⟨List.Pairwise.nil, fun y hy => by cases hy⟩
  | x :: xs, i => by
    obtain ⟨h1, h2⟩ := fmI_asc hf xs (i + 1)
    have e : fmI f i (x :: xs) = (f i x).toList ++ fmI f (i + 1) xs := rfl
    rw [e]
    cases q : f i x with
    | none => exact ⟨h1, fun y hy => by have := h2 y (by simpa using hy); omega⟩
    | some y =>
      have := hf i x y q
      subst this
      refine ⟨List.pairwise_cons.mpr ⟨fun z hz => by have := h2 z hz; omega, h1⟩, fun z hz => ?_⟩
      rcases (List.mem_cons.mp hz) with rfl | hz
      · exact Nat.le_refl _
      · have := h2 z hz; omega
def pot (N : Nat) (ls : List (List Nat × Nat)) : Nat := (ls.map fun p => 2 ^ (N - p.2)).sum
theorem pot_append (N : Nat) (a b : List (List Nat × Nat)) : pot N (a ++ b) = pot N a + pot N b := by unfold pot; rw [List.map_append, List.sum_append]
theorem pot_one (N : Nat) (p : List Nat × Nat) : pot N [p] = 2 ^ (N - p.2) := by unfold pot; simp
theorem len_pot (N : Nat) : ∀ ls : List (List Nat × Nat), ls.length ≤ pot N ls
  | [] => Nat.le_refl _
  | p :: r => by
    have := len_pot N r
    have e : pot N (p :: r) = 2 ^ (N - p.2) + pot N r := by rw [← pot_one, ← pot_append]; rfl
    have := Nat.two_pow_pos (N - p.2)
    rw [e, List.length_cons]
    omega
theorem pot_take (N : Nat) (ls : List (List Nat × Nat)) (i : Nat) : pot N (ls.take i) ≤ pot N ls := by
  have e : ls.take i ++ ls.drop i = ls := List.take_append_drop i ls
  have := pot_append N (ls.take i) (ls.drop i)
  rw [e] at this
  omega
theorem pot_succ (N : Nat) {ls : List (List Nat × Nat)} {i : Nat} {p : List Nat × Nat} (h : ls[i]? = some p) : pot N (ls.take (i + 1)) = pot N (ls.take i) + 2 ^ (N - p.2) := by
  rw [List.take_add_one, h, pot_append, ← pot_one]
  rfl
/-- a lot within W whose last number stands ahead of place q -/
def Good (W : List Nat) (p : List Nat × Nat) : Prop := p.2 ≤ W.length ∧ p.1.length ≤ p.2 ∧ (∀ x ∈ p.1, x ∈ W) ∧ ((p.2 = 0 ∧ p.1 = []) ∨ ∃ L w, p.1 = L ++ [w] ∧ 1 ≤ p.2 ∧ W[p.2 - 1]? = some w)
theorem good_nil (W : List Nat) : Good W ([], 0) := ⟨Nat.zero_le _, Nat.le_refl _, (fun x hx => by cases hx), Or.inl ⟨rfl, rfl⟩⟩
theorem good_snoc {W : List Nat} {p : List Nat × Nat} {j w : Nat} (h : Good W p) (hj : p.2 ≤ j) (hw : W[j]? = some w) : Good W (p.1 ++ [w], j + 1) := by
  obtain ⟨h1, h2, h3, h4⟩ := h
  have jl := (List.getElem?_eq_some_iff.mp hw).1
  refine ⟨jl, ?_, fun x hx => ?_, .inr ⟨p.1, w, rfl, Nat.succ_pos _, hw⟩⟩
  · show (p.1 ++ [w]).length ≤ j + 1
    rw [List.length_append, List.length_singleton ]
    omega
  · rcases (List.mem_append.mp hx) with hx | hx
    · exact h3 x hx
    · rw [List.mem_singleton.mp hx]
      exact List.mem_of_getElem? hw
/-- a number of W lies above the last exactly from place q on -/
theorem above_last {W : List Nat} (ha : W.Pairwise (fun a b => a < b)) {p : List Nat × Nat} {j v L0 : Nat} (hl : 1 ≤ p.2) (h0 : W[p.2 - 1]? = some L0) (hj : W[j]? = some v) : L0 < v ↔ p.2 ≤ j := by
  obtain ⟨i1, e1⟩ := List.getElem?_eq_some_iff.mp h0
  obtain ⟨i2, e2⟩ := List.getElem?_eq_some_iff.mp hj
  have P := List.pairwise_iff_getElem.mp ha
  constructor
  · intro h
    apply Classical.byContradiction
    intro no
    rcases Nat.lt_or_eq_of_le (show j ≤ p.2 - 1 by omega) with c | c
    · have := P j (p.2 - 1) i2 i1 c
      omega
    · subst c
      rw [e1] at e2
      omega
  · intro h
    have := P (p.2 - 1) j i1 i2 (by omega)
    omega
theorem two_split {N j : Nat} (h : j < N) : 2 ^ (N - (j + 1)) + 2 ^ (N - (j + 1)) = 2 ^ (N - j) := by
  rw [show N - j = (N - (j + 1)) + 1 by omega, Nat.pow_succ]
  omega
end UM
set_option maxHeartbeats 4100000
namespace U
open PySem L2 He
/-! ### objects -/
/-- the object at p has the attribute f with the value v -/
def Has (K : PySem.W.Frag) (H : Hp) (p : Addr) (f : Str) (v : V) : Prop := ∃ C dx fs, H p = some (.ins C dx fs) ∧ Cls K C ∧ NoAttr K C f ∧ fs.lookup f = some v
theorem Has.mono {K : PySem.W.Frag} {H H' : Hp} {p : Addr} {f : Str} {v : V} (e : Same H H') (h : Has K H p f v) : Has K H' p f v := by
  obtain ⟨C, dx, fs, h1, h2⟩ := h
  exact ⟨C, dx, fs, e _ _ h1, h2⟩
theorem Has.ans {K : PySem.W.Frag} {H : Hp} {p : Addr} {f : Str} {v : V} {Q : V → Prop} (h : Has K H p f v) (q : Q v) :
    ∃ (a C dx : Addr) (fs : List (Str × V)) (v' : V), V.ref p = .ref a ∧ H a = some (.ins C dx fs) ∧ Cls K C ∧ NoAttr K C f ∧ fs.lookup f = some v' ∧ Q v' := by
  obtain ⟨C, dx, fs, h1, h2, h3, h4⟩ := h
  exact ⟨p, C, dx, fs, v, rfl, h1, h2, h3, h4, q⟩
theorem Same.tup {K : PySem.W.Frag} {H H' : Hp} {a : Addr} {xs : List V} (e : Same H H') (h : SqT K H a xs) : SqT K H' a xs := by
  rcases (h) with (h | ⟨o, h⟩) | h
  · exact .inl (.inl (e _ _ h))
  · exact (.inl (.inr ⟨o, e _ _ h⟩))
  · exact .inr h
theorem get_push {H : Hp} {b p : Addr} {o u : HO} (hb : H b = none) (hp : H p = some o) : upd H b u p = some o := by rw [upd_ne (ne_of_none hp hb)]; exact hp
theorem get_ne {H : Hp} {b p : Addr} {o u : HO} (n : p ≠ b) (hp : H p = some o) : upd H b u p = some o := by rw [upd_ne n]; exact hp
theorem get_ne' {H : Hp} {b p : Addr} {o u : HO} (n : b ≠ p) (hp : H p = some o) : upd H b u p = some o := by rw [upd_ne n.symm]; exact hp
theorem Same.get {H H' : Hp} {p : Addr} {o : HO} (e : Same H H') (hp : H p = some o) : H' p = some o := e _ _ hp
theorem ite_tt {b : Bool} {A B : Prop} (h : b = true) (q : A) : if b = true then A else B := by rw [if_pos h]; exact q
theorem ite_ff {b : Bool} {A B : Prop} (h : b = false) (q : B) : if b = true then A else B := by rw [if_neg (by rw [h]; exact Bool.false_ne_true)]; exact q
theorem lk_hit {f : Str} {v : V} {fs : List (Str × V)} : (putF f v fs).lookup f = some v := by rw [lookup_putF, if_pos rfl]
theorem lk_miss {f g : Str} {v : V} {fs : List (Str × V)} {r : Option V} (h : ¬ g = f) (e : fs.lookup g = r) : (putF f v fs).lookup g = r := by rw [lookup_putF, if_neg h]; exact e
theorem len_put {f : Str} {v : V} {fs : List (Str × V)} {n : Nat} (h : fs.length ≤ n) : (putF f v fs).length ≤ n + 1 := Nat.le_trans (length_putF f v fs) (Nat.succ_le_succ h)
/-- a new instance -/
theorem Same.mk {H : Hp} {x dx : Addr} {o u : HO} (h1 : H x = none) (h2 : H dx = none) : Same H (upd (upd H dx u) x o) := fun b z e => by
  rw [upd_ne (ne_of_none e h1), upd_ne (ne_of_none e h2)]
  exact e
/-- an object of ours is written -/
theorem Same.own {H0 H : Hp} {p : Addr} {o : HO} (e : Same H0 H) (h : H0 p = none) : Same H0 (upd H p o) := fun b u q => by
  rw [upd_ne (ne_of_none q h)]
  exact e b u q
/-- an instance of Saying -/
def SayAt (K : PySem.W.Frag) (H : Hp) (p : Addr) (c b t : Nat) (u : Bool) : Prop := ∃ dx fs, H p = some (.ins (ga K "Saying") dx fs) ∧ fs.lookup ("where" : Str) = some (V.int ((c ||| b : Nat) : Int)) ∧ fs.lookup ("then" : Str) = some (V.int (t : Int)) ∧ fs.lookup ("usual" : Str) = some (V.bl u) ∧ fs.lookup ("confirm" : Str) = some (V.int (c : Int)) ∧ fs.lookup ("broken" : Str) = some (V.int (b : Int)) ∧ fs.lookup ("low" : Str) = some (V.int ((if u = true then c else b : Nat) : Int)) ∧ fs.lookup ("high" : Str) = some (V.int ((if u = true then b else c : Nat) : Int)) ∧ fs.lookup ("step" : Str) = some (V.int ((if u = true then 1 else 0 : Nat) : Int)) ∧ fs.lookup ("contrary" : Str) = none ∧ fs.lookup ("flipped" : Str) = none ∧ fs.length ≤ 900
theorem SayAt.mono {K : PySem.W.Frag} {H H' : Hp} {p : Addr} {c b t : Nat} {u : Bool} (e : Same H H') (h : SayAt K H p c b t u) : SayAt K H' p c b t u := by
  obtain ⟨dx, fs, h0, h⟩ := h
  exact ⟨dx, fs, e _ _ h0, h⟩
theorem SayAt.ins {K : PySem.W.Frag} {H : Hp} {p : Addr} {c b t : Nat} {u : Bool} (h : SayAt K H p c b t u) : ∃ dx fs, H p = some (.ins (ga K "Saying") dx fs) := by
  obtain ⟨dx, fs, h0, _⟩ := h
  exact ⟨dx, fs, h0⟩
theorem SayAt.f_where {K : PySem.W.Frag} {mg : Str → Option Value} {H : Hp} {p : Addr} {c b t : Nat} {u : Bool} (T : Txt K mg) (h : SayAt K H p c b t u) : Has K H p "where" (V.int ((c ||| b : Nat) : Int)) := by
  obtain ⟨dx, fs, h0, h1, h2, h3, h4, h5, h6, h7, h8, h9, h10, _⟩ := h
  exact ⟨_, dx, fs, h0, T.c_Saying, T.n_Saying_where, h1⟩
theorem SayAt.f_then {K : PySem.W.Frag} {mg : Str → Option Value} {H : Hp} {p : Addr} {c b t : Nat} {u : Bool} (T : Txt K mg) (h : SayAt K H p c b t u) : Has K H p "then" (V.int (t : Int)) := by
  obtain ⟨dx, fs, h0, h1, h2, h3, h4, h5, h6, h7, h8, h9, h10, _⟩ := h
  exact ⟨_, dx, fs, h0, T.c_Saying, T.n_Saying_then, h2⟩
theorem SayAt.f_usual {K : PySem.W.Frag} {mg : Str → Option Value} {H : Hp} {p : Addr} {c b t : Nat} {u : Bool} (T : Txt K mg) (h : SayAt K H p c b t u) : Has K H p "usual" (V.bl u) := by
  obtain ⟨dx, fs, h0, h1, h2, h3, h4, h5, h6, h7, h8, h9, h10, _⟩ := h
  exact ⟨_, dx, fs, h0, T.c_Saying, T.n_Saying_usual, h3⟩
theorem SayAt.f_confirm {K : PySem.W.Frag} {mg : Str → Option Value} {H : Hp} {p : Addr} {c b t : Nat} {u : Bool} (T : Txt K mg) (h : SayAt K H p c b t u) : Has K H p "confirm" (V.int (c : Int)) := by
  obtain ⟨dx, fs, h0, h1, h2, h3, h4, h5, h6, h7, h8, h9, h10, _⟩ := h
  exact ⟨_, dx, fs, h0, T.c_Saying, T.n_Saying_confirm, h4⟩
theorem SayAt.f_broken {K : PySem.W.Frag} {mg : Str → Option Value} {H : Hp} {p : Addr} {c b t : Nat} {u : Bool} (T : Txt K mg) (h : SayAt K H p c b t u) : Has K H p "broken" (V.int (b : Int)) := by
  obtain ⟨dx, fs, h0, h1, h2, h3, h4, h5, h6, h7, h8, h9, h10, _⟩ := h
  exact ⟨_, dx, fs, h0, T.c_Saying, T.n_Saying_broken, h5⟩
theorem SayAt.f_low {K : PySem.W.Frag} {mg : Str → Option Value} {H : Hp} {p : Addr} {c b t : Nat} {u : Bool} (T : Txt K mg) (h : SayAt K H p c b t u) : Has K H p "low" (V.int ((if u = true then c else b : Nat) : Int)) := by
  obtain ⟨dx, fs, h0, h1, h2, h3, h4, h5, h6, h7, h8, h9, h10, _⟩ := h
  exact ⟨_, dx, fs, h0, T.c_Saying, T.n_Saying_low, h6⟩
theorem SayAt.f_high {K : PySem.W.Frag} {mg : Str → Option Value} {H : Hp} {p : Addr} {c b t : Nat} {u : Bool} (T : Txt K mg) (h : SayAt K H p c b t u) : Has K H p "high" (V.int ((if u = true then b else c : Nat) : Int)) := by
  obtain ⟨dx, fs, h0, h1, h2, h3, h4, h5, h6, h7, h8, h9, h10, _⟩ := h
  exact ⟨_, dx, fs, h0, T.c_Saying, T.n_Saying_high, h7⟩
theorem SayAt.f_step {K : PySem.W.Frag} {mg : Str → Option Value} {H : Hp} {p : Addr} {c b t : Nat} {u : Bool} (T : Txt K mg) (h : SayAt K H p c b t u) : Has K H p "step" (V.int ((if u = true then 1 else 0 : Nat) : Int)) := by
  obtain ⟨dx, fs, h0, h1, h2, h3, h4, h5, h6, h7, h8, h9, h10, _⟩ := h
  exact ⟨_, dx, fs, h0, T.c_Saying, T.n_Saying_step, h8⟩
theorem SayAt.m_contrary {K : PySem.W.Frag} {H : Hp} {p : Addr} {c b t : Nat} {u : Bool} (h : SayAt K H p c b t u) : ∃ dx fs, H p = some (.ins (ga K "Saying") dx fs) ∧ fs.lookup ("contrary" : Str) = none := by
  obtain ⟨dx, fs, h0, h1, h2, h3, h4, h5, h6, h7, h8, h9, h10, _⟩ := h
  exact ⟨dx, fs, h0, h9⟩
theorem SayAt.m_flipped {K : PySem.W.Frag} {H : Hp} {p : Addr} {c b t : Nat} {u : Bool} (h : SayAt K H p c b t u) : ∃ dx fs, H p = some (.ins (ga K "Saying") dx fs) ∧ fs.lookup ("flipped" : Str) = none := by
  obtain ⟨dx, fs, h0, h1, h2, h3, h4, h5, h6, h7, h8, h9, h10, _⟩ := h
  exact ⟨dx, fs, h0, h10⟩
theorem SayAt.ty {K : PySem.W.Frag} {mg : Str → Option Value} {H : Hp} {p : Addr} {c b t : Nat} {u : Bool} (T : Txt K mg) (h : SayAt K H p c b t u) : TyX K H (.ref p) (.ref (ga K "Saying")) := by
  obtain ⟨dx, fs, h0, _⟩ := h
  exact .base (.ins h0 T.c_Saying T.ic_Saying.ca T.ic_Saying.cn T.ic_Saying.ct T.ic_Saying.cm)
/-- an instance of Marks -/
def MarksAt (K : PySem.W.Frag) (H : Hp) (p : Addr) (n : Nat) : Prop := ∃ dx fs, H p = some (.ins (ga K "Marks") dx fs) ∧ fs.lookup ("days" : Str) = some (V.int (n : Int)) ∧ fs.lookup ("all_days" : Str) = some (V.int ((2 ^ n - 1 : Nat) : Int)) ∧ fs.length ≤ 900
theorem MarksAt.mono {K : PySem.W.Frag} {H H' : Hp} {p : Addr} {n : Nat} (e : Same H H') (h : MarksAt K H p n) : MarksAt K H' p n := by
  obtain ⟨dx, fs, h0, h⟩ := h
  exact ⟨dx, fs, e _ _ h0, h⟩
theorem MarksAt.ins {K : PySem.W.Frag} {H : Hp} {p : Addr} {n : Nat} (h : MarksAt K H p n) : ∃ dx fs, H p = some (.ins (ga K "Marks") dx fs) := by
  obtain ⟨dx, fs, h0, _⟩ := h
  exact ⟨dx, fs, h0⟩
theorem MarksAt.f_days {K : PySem.W.Frag} {mg : Str → Option Value} {H : Hp} {p : Addr} {n : Nat} (T : Txt K mg) (h : MarksAt K H p n) : Has K H p "days" (V.int (n : Int)) := by
  obtain ⟨dx, fs, h0, h1, h2, _⟩ := h
  exact ⟨_, dx, fs, h0, T.c_Marks, T.n_Marks_days, h1⟩
theorem MarksAt.f_all_days {K : PySem.W.Frag} {mg : Str → Option Value} {H : Hp} {p : Addr} {n : Nat} (T : Txt K mg) (h : MarksAt K H p n) : Has K H p "all_days" (V.int ((2 ^ n - 1 : Nat) : Int)) := by
  obtain ⟨dx, fs, h0, h1, h2, _⟩ := h
  exact ⟨_, dx, fs, h0, T.c_Marks, T.n_Marks_all_days, h2⟩
theorem MarksAt.ty {K : PySem.W.Frag} {mg : Str → Option Value} {H : Hp} {p : Addr} {n : Nat} (T : Txt K mg) (h : MarksAt K H p n) : TyX K H (.ref p) (.ref (ga K "Marks")) := by
  obtain ⟨dx, fs, h0, _⟩ := h
  exact .base (.ins h0 T.c_Marks T.ic_Marks.ca T.ic_Marks.cn T.ic_Marks.ct T.ic_Marks.cm)
/-- an instance of Verdicts -/
def VerdAt (K : PySem.W.Frag) (H : Hp) (p : Addr) (c b : Nat) : Prop := ∃ dx fs, H p = some (.ins (ga K "Verdicts") dx fs) ∧ fs.lookup ("confirm" : Str) = some (V.int (c : Int)) ∧ fs.lookup ("broken" : Str) = some (V.int (b : Int)) ∧ fs.length ≤ 900
theorem VerdAt.mono {K : PySem.W.Frag} {H H' : Hp} {p : Addr} {c b : Nat} (e : Same H H') (h : VerdAt K H p c b) : VerdAt K H' p c b := by
  obtain ⟨dx, fs, h0, h⟩ := h
  exact ⟨dx, fs, e _ _ h0, h⟩
theorem VerdAt.ins {K : PySem.W.Frag} {H : Hp} {p : Addr} {c b : Nat} (h : VerdAt K H p c b) : ∃ dx fs, H p = some (.ins (ga K "Verdicts") dx fs) := by
  obtain ⟨dx, fs, h0, _⟩ := h
  exact ⟨dx, fs, h0⟩
theorem VerdAt.f_confirm {K : PySem.W.Frag} {mg : Str → Option Value} {H : Hp} {p : Addr} {c b : Nat} (T : Txt K mg) (h : VerdAt K H p c b) : Has K H p "confirm" (V.int (c : Int)) := by
  obtain ⟨dx, fs, h0, h1, h2, _⟩ := h
  exact ⟨_, dx, fs, h0, T.c_Verdicts, T.n_Verdicts_confirm, h1⟩
theorem VerdAt.f_broken {K : PySem.W.Frag} {mg : Str → Option Value} {H : Hp} {p : Addr} {c b : Nat} (T : Txt K mg) (h : VerdAt K H p c b) : Has K H p "broken" (V.int (b : Int)) := by
  obtain ⟨dx, fs, h0, h1, h2, _⟩ := h
  exact ⟨_, dx, fs, h0, T.c_Verdicts, T.n_Verdicts_broken, h2⟩
/-- an instance of Weights -/
def WeiAt0 (K : PySem.W.Frag) (H : Hp) (p : Addr) (t : Addr) : Prop := ∃ dx fs, H p = some (.ins (ga K "Weights") dx fs) ∧ fs.lookup ("numbers" : Str) = some (V.ref t) ∧ fs.lookup ("picked" : Str) = none ∧ fs.lookup ("of" : Str) = none ∧ fs.length ≤ 900
theorem WeiAt0.mono {K : PySem.W.Frag} {H H' : Hp} {p : Addr} {t : Addr} (e : Same H H') (h : WeiAt0 K H p t) : WeiAt0 K H' p t := by
  obtain ⟨dx, fs, h0, h⟩ := h
  exact ⟨dx, fs, e _ _ h0, h⟩
theorem WeiAt0.ins {K : PySem.W.Frag} {H : Hp} {p : Addr} {t : Addr} (h : WeiAt0 K H p t) : ∃ dx fs, H p = some (.ins (ga K "Weights") dx fs) := by
  obtain ⟨dx, fs, h0, _⟩ := h
  exact ⟨dx, fs, h0⟩
theorem WeiAt0.f_numbers {K : PySem.W.Frag} {mg : Str → Option Value} {H : Hp} {p : Addr} {t : Addr} (T : Txt K mg) (h : WeiAt0 K H p t) : Has K H p "numbers" (V.ref t) := by
  obtain ⟨dx, fs, h0, h1, h2, h3, _⟩ := h
  exact ⟨_, dx, fs, h0, T.c_Weights, T.n_Weights_numbers, h1⟩
theorem WeiAt0.m_picked {K : PySem.W.Frag} {H : Hp} {p : Addr} {t : Addr} (h : WeiAt0 K H p t) : ∃ dx fs, H p = some (.ins (ga K "Weights") dx fs) ∧ fs.lookup ("picked" : Str) = none := by
  obtain ⟨dx, fs, h0, h1, h2, h3, _⟩ := h
  exact ⟨dx, fs, h0, h2⟩
theorem WeiAt0.m_of {K : PySem.W.Frag} {H : Hp} {p : Addr} {t : Addr} (h : WeiAt0 K H p t) : ∃ dx fs, H p = some (.ins (ga K "Weights") dx fs) ∧ fs.lookup ("of" : Str) = none := by
  obtain ⟨dx, fs, h0, h1, h2, h3, _⟩ := h
  exact ⟨dx, fs, h0, h3⟩
theorem WeiAt0.ty {K : PySem.W.Frag} {mg : Str → Option Value} {H : Hp} {p : Addr} {t : Addr} (T : Txt K mg) (h : WeiAt0 K H p t) : TyX K H (.ref p) (.ref (ga K "Weights")) := by
  obtain ⟨dx, fs, h0, _⟩ := h
  exact .base (.ins h0 T.c_Weights T.ic_Weights.ca T.ic_Weights.cn T.ic_Weights.ct T.ic_Weights.cm)
/-- an instance of Book -/
def BookAt0 (K : PySem.W.Frag) (H : Hp) (p : Addr) (m t : Addr) : Prop := ∃ dx fs, H p = some (.ins (ga K "Book") dx fs) ∧ fs.lookup ("marks" : Str) = some (V.ref m) ∧ fs.lookup ("sayings" : Str) = some (V.ref t) ∧ fs.length ≤ 900
theorem BookAt0.mono {K : PySem.W.Frag} {H H' : Hp} {p : Addr} {m t : Addr} (e : Same H H') (h : BookAt0 K H p m t) : BookAt0 K H' p m t := by
  obtain ⟨dx, fs, h0, h⟩ := h
  exact ⟨dx, fs, e _ _ h0, h⟩
theorem BookAt0.ins {K : PySem.W.Frag} {H : Hp} {p : Addr} {m t : Addr} (h : BookAt0 K H p m t) : ∃ dx fs, H p = some (.ins (ga K "Book") dx fs) := by
  obtain ⟨dx, fs, h0, _⟩ := h
  exact ⟨dx, fs, h0⟩
theorem BookAt0.f_marks {K : PySem.W.Frag} {mg : Str → Option Value} {H : Hp} {p : Addr} {m t : Addr} (T : Txt K mg) (h : BookAt0 K H p m t) : Has K H p "marks" (V.ref m) := by
  obtain ⟨dx, fs, h0, h1, h2, _⟩ := h
  exact ⟨_, dx, fs, h0, T.c_Book, T.n_Book_marks, h1⟩
theorem BookAt0.f_sayings {K : PySem.W.Frag} {mg : Str → Option Value} {H : Hp} {p : Addr} {m t : Addr} (T : Txt K mg) (h : BookAt0 K H p m t) : Has K H p "sayings" (V.ref t) := by
  obtain ⟨dx, fs, h0, h1, h2, _⟩ := h
  exact ⟨_, dx, fs, h0, T.c_Book, T.n_Book_sayings, h2⟩
/-- an instance of Bounded -/
def BoundAt0 (K : PySem.W.Frag) (H : Hp) (p : Addr) (t : Addr) : Prop := ∃ dx fs, H p = some (.ins (ga K "Bounded") dx fs) ∧ fs.lookup ("lot" : Str) = some (V.ref t) ∧ fs.length ≤ 900
theorem BoundAt0.mono {K : PySem.W.Frag} {H H' : Hp} {p : Addr} {t : Addr} (e : Same H H') (h : BoundAt0 K H p t) : BoundAt0 K H' p t := by
  obtain ⟨dx, fs, h0, h⟩ := h
  exact ⟨dx, fs, e _ _ h0, h⟩
theorem BoundAt0.ins {K : PySem.W.Frag} {H : Hp} {p : Addr} {t : Addr} (h : BoundAt0 K H p t) : ∃ dx fs, H p = some (.ins (ga K "Bounded") dx fs) := by
  obtain ⟨dx, fs, h0, _⟩ := h
  exact ⟨dx, fs, h0⟩
theorem BoundAt0.f_lot {K : PySem.W.Frag} {mg : Str → Option Value} {H : Hp} {p : Addr} {t : Addr} (T : Txt K mg) (h : BoundAt0 K H p t) : Has K H p "lot" (V.ref t) := by
  obtain ⟨dx, fs, h0, h1, _⟩ := h
  exact ⟨_, dx, fs, h0, T.c_Bounded, T.n_Bounded_lot, h1⟩
theorem BoundAt0.ty {K : PySem.W.Frag} {mg : Str → Option Value} {H : Hp} {p : Addr} {t : Addr} (T : Txt K mg) (h : BoundAt0 K H p t) : TyX K H (.ref p) (.ref (ga K "Bounded")) := by
  obtain ⟨dx, fs, h0, _⟩ := h
  exact .base (.ins h0 T.c_Bounded T.ic_Bounded.ca T.ic_Bounded.cn T.ic_Bounded.ct T.ic_Bounded.cm)
/-- an instance of Exceeds -/
def ExcAt0 (K : PySem.W.Frag) (H : Hp) (p : Addr) (w : Addr) : Prop := ∃ dx fs, H p = some (.ins (ga K "Exceeds") dx fs) ∧ fs.lookup ("weights" : Str) = some (V.ref w) ∧ fs.length ≤ 900
theorem ExcAt0.mono {K : PySem.W.Frag} {H H' : Hp} {p : Addr} {w : Addr} (e : Same H H') (h : ExcAt0 K H p w) : ExcAt0 K H' p w := by
  obtain ⟨dx, fs, h0, h⟩ := h
  exact ⟨dx, fs, e _ _ h0, h⟩
theorem ExcAt0.ins {K : PySem.W.Frag} {H : Hp} {p : Addr} {w : Addr} (h : ExcAt0 K H p w) : ∃ dx fs, H p = some (.ins (ga K "Exceeds") dx fs) := by
  obtain ⟨dx, fs, h0, _⟩ := h
  exact ⟨dx, fs, h0⟩
theorem ExcAt0.f_weights {K : PySem.W.Frag} {mg : Str → Option Value} {H : Hp} {p : Addr} {w : Addr} (T : Txt K mg) (h : ExcAt0 K H p w) : Has K H p "weights" (V.ref w) := by
  obtain ⟨dx, fs, h0, h1, _⟩ := h
  exact ⟨_, dx, fs, h0, T.c_Exceeds, T.n_Exceeds_weights, h1⟩
theorem ExcAt0.ty {K : PySem.W.Frag} {mg : Str → Option Value} {H : Hp} {p : Addr} {w : Addr} (T : Txt K mg) (h : ExcAt0 K H p w) : TyX K H (.ref p) (.ref (ga K "Exceeds")) := by
  obtain ⟨dx, fs, h0, _⟩ := h
  exact .base (.ins h0 T.c_Exceeds T.ic_Exceeds.ca T.ic_Exceeds.cn T.ic_Exceeds.ct T.ic_Exceeds.cm)
/-- an instance of Lifted -/
def LiftedAt (K : PySem.W.Frag) (H : Hp) (p : Addr) (o : V) : Prop := ∃ dx fs, H p = some (.ins (ga K "Lifted") dx fs) ∧ fs.lookup ("order" : Str) = some (o) ∧ fs.length ≤ 900
theorem LiftedAt.mono {K : PySem.W.Frag} {H H' : Hp} {p : Addr} {o : V} (e : Same H H') (h : LiftedAt K H p o) : LiftedAt K H' p o := by
  obtain ⟨dx, fs, h0, h⟩ := h
  exact ⟨dx, fs, e _ _ h0, h⟩
theorem LiftedAt.ins {K : PySem.W.Frag} {H : Hp} {p : Addr} {o : V} (h : LiftedAt K H p o) : ∃ dx fs, H p = some (.ins (ga K "Lifted") dx fs) := by
  obtain ⟨dx, fs, h0, _⟩ := h
  exact ⟨dx, fs, h0⟩
theorem LiftedAt.f_order {K : PySem.W.Frag} {mg : Str → Option Value} {H : Hp} {p : Addr} {o : V} (T : Txt K mg) (h : LiftedAt K H p o) : Has K H p "order" (o) := by
  obtain ⟨dx, fs, h0, h1, _⟩ := h
  exact ⟨_, dx, fs, h0, T.c_Lifted, T.n_Lifted_order, h1⟩
theorem LiftedAt.ty {K : PySem.W.Frag} {mg : Str → Option Value} {H : Hp} {p : Addr} {o : V} (T : Txt K mg) (h : LiftedAt K H p o) : TyX K H (.ref p) (.ref (ga K "Lifted")) := by
  obtain ⟨dx, fs, h0, _⟩ := h
  exact .base (.ins h0 T.c_Lifted T.ic_Lifted.ca T.ic_Lifted.cn T.ic_Lifted.ct T.ic_Lifted.cm)
/-- an instance of Stuck -/
def StuckAt (K : PySem.W.Frag) (H : Hp) (p : Addr)  : Prop := ∃ dx fs, H p = some (.ins (ga K "Stuck") dx fs) ∧ fs.length ≤ 900
theorem StuckAt.mono {K : PySem.W.Frag} {H H' : Hp} {p : Addr}  (e : Same H H') (h : StuckAt K H p ) : StuckAt K H' p  := by
  obtain ⟨dx, fs, h0, h⟩ := h
  exact ⟨dx, fs, e _ _ h0, h⟩
theorem StuckAt.ins {K : PySem.W.Frag} {H : Hp} {p : Addr}  (h : StuckAt K H p ) : ∃ dx fs, H p = some (.ins (ga K "Stuck") dx fs) := by
  obtain ⟨dx, fs, h0, _⟩ := h
  exact ⟨dx, fs, h0⟩
theorem StuckAt.ty {K : PySem.W.Frag} {mg : Str → Option Value} {H : Hp} {p : Addr}  (T : Txt K mg) (h : StuckAt K H p ) : TyX K H (.ref p) (.ref (ga K "Stuck")) := by
  obtain ⟨dx, fs, h0, _⟩ := h
  exact .base (.ins h0 T.c_Stuck T.ic_Stuck.ca T.ic_Stuck.cn T.ic_Stuck.ct T.ic_Stuck.cm)
/-- an instance of Told -/
def ToldAt (K : PySem.W.Frag) (H : Hp) (p : Addr)  : Prop := ∃ dx fs, H p = some (.ins (ga K "Told") dx fs) ∧ fs.length ≤ 900
theorem ToldAt.mono {K : PySem.W.Frag} {H H' : Hp} {p : Addr}  (e : Same H H') (h : ToldAt K H p ) : ToldAt K H' p  := by
  obtain ⟨dx, fs, h0, h⟩ := h
  exact ⟨dx, fs, e _ _ h0, h⟩
theorem ToldAt.ins {K : PySem.W.Frag} {H : Hp} {p : Addr}  (h : ToldAt K H p ) : ∃ dx fs, H p = some (.ins (ga K "Told") dx fs) := by
  obtain ⟨dx, fs, h0, _⟩ := h
  exact ⟨dx, fs, h0⟩
theorem ToldAt.ty {K : PySem.W.Frag} {mg : Str → Option Value} {H : Hp} {p : Addr}  (T : Txt K mg) (h : ToldAt K H p ) : TyX K H (.ref p) (.ref (ga K "Told")) := by
  obtain ⟨dx, fs, h0, _⟩ := h
  exact .base (.ins h0 T.c_Told T.ic_Told.ca T.ic_Told.cn T.ic_Told.ct T.ic_Told.cm)
/-- an instance of NotTold -/
def NotAt (K : PySem.W.Frag) (H : Hp) (p : Addr)  : Prop := ∃ dx fs, H p = some (.ins (ga K "NotTold") dx fs) ∧ fs.length ≤ 900
theorem NotAt.mono {K : PySem.W.Frag} {H H' : Hp} {p : Addr}  (e : Same H H') (h : NotAt K H p ) : NotAt K H' p  := by
  obtain ⟨dx, fs, h0, h⟩ := h
  exact ⟨dx, fs, e _ _ h0, h⟩
theorem NotAt.ins {K : PySem.W.Frag} {H : Hp} {p : Addr}  (h : NotAt K H p ) : ∃ dx fs, H p = some (.ins (ga K "NotTold") dx fs) := by
  obtain ⟨dx, fs, h0, _⟩ := h
  exact ⟨dx, fs, h0⟩
theorem NotAt.ty {K : PySem.W.Frag} {mg : Str → Option Value} {H : Hp} {p : Addr}  (T : Txt K mg) (h : NotAt K H p ) : TyX K H (.ref p) (.ref (ga K "NotTold")) := by
  obtain ⟨dx, fs, h0, _⟩ := h
  exact .base (.ins h0 T.c_NotTold T.ic_NotTold.ca T.ic_NotTold.cn T.ic_NotTold.ct T.ic_NotTold.cm)
/-- an instance of Order -/
def OrderAt (K : PySem.W.Frag) (H : Hp) (p : Addr)  : Prop := ∃ dx fs, H p = some (.ins (ga K "Order") dx fs) ∧ fs.length ≤ 900
theorem OrderAt.mono {K : PySem.W.Frag} {H H' : Hp} {p : Addr}  (e : Same H H') (h : OrderAt K H p ) : OrderAt K H' p  := by
  obtain ⟨dx, fs, h0, h⟩ := h
  exact ⟨dx, fs, e _ _ h0, h⟩
theorem OrderAt.ins {K : PySem.W.Frag} {H : Hp} {p : Addr}  (h : OrderAt K H p ) : ∃ dx fs, H p = some (.ins (ga K "Order") dx fs) := by
  obtain ⟨dx, fs, h0, _⟩ := h
  exact ⟨dx, fs, h0⟩
/-- an instance of Lifting -/
def LifAt0 (K : PySem.W.Frag) (H : Hp) (p : Addr) (rw st la re he : Addr) (kn : Nat) : Prop := ∃ dx fs, H p = some (.ins (ga K "Lifting") dx fs) ∧ fs.lookup ("rows" : Str) = some (V.ref rw) ∧ fs.lookup ("start" : Str) = some (V.ref st) ∧ fs.lookup ("layers" : Str) = some (V.ref la) ∧ fs.lookup ("reasons" : Str) = some (V.ref re) ∧ fs.lookup ("heights" : Str) = some (V.ref he) ∧ fs.lookup ("known" : Str) = some (V.int (kn : Int)) ∧ fs.lookup ("open_days" : Str) = none ∧ fs.lookup ("settle" : Str) = none ∧ fs.lookup ("run" : Str) = none ∧ fs.length ≤ 900
theorem LifAt0.mono {K : PySem.W.Frag} {H H' : Hp} {p : Addr} {rw st la re he : Addr} {kn : Nat} (e : Same H H') (h : LifAt0 K H p rw st la re he kn) : LifAt0 K H' p rw st la re he kn := by
  obtain ⟨dx, fs, h0, h⟩ := h
  exact ⟨dx, fs, e _ _ h0, h⟩
theorem LifAt0.ins {K : PySem.W.Frag} {H : Hp} {p : Addr} {rw st la re he : Addr} {kn : Nat} (h : LifAt0 K H p rw st la re he kn) : ∃ dx fs, H p = some (.ins (ga K "Lifting") dx fs) := by
  obtain ⟨dx, fs, h0, _⟩ := h
  exact ⟨dx, fs, h0⟩
theorem LifAt0.f_rows {K : PySem.W.Frag} {mg : Str → Option Value} {H : Hp} {p : Addr} {rw st la re he : Addr} {kn : Nat} (T : Txt K mg) (h : LifAt0 K H p rw st la re he kn) : Has K H p "rows" (V.ref rw) := by
  obtain ⟨dx, fs, h0, h1, h2, h3, h4, h5, h6, h7, h8, h9, _⟩ := h
  exact ⟨_, dx, fs, h0, T.c_Lifting, T.n_Lifting_rows, h1⟩
theorem LifAt0.f_start {K : PySem.W.Frag} {mg : Str → Option Value} {H : Hp} {p : Addr} {rw st la re he : Addr} {kn : Nat} (T : Txt K mg) (h : LifAt0 K H p rw st la re he kn) : Has K H p "start" (V.ref st) := by
  obtain ⟨dx, fs, h0, h1, h2, h3, h4, h5, h6, h7, h8, h9, _⟩ := h
  exact ⟨_, dx, fs, h0, T.c_Lifting, T.n_Lifting_start, h2⟩
theorem LifAt0.f_layers {K : PySem.W.Frag} {mg : Str → Option Value} {H : Hp} {p : Addr} {rw st la re he : Addr} {kn : Nat} (T : Txt K mg) (h : LifAt0 K H p rw st la re he kn) : Has K H p "layers" (V.ref la) := by
  obtain ⟨dx, fs, h0, h1, h2, h3, h4, h5, h6, h7, h8, h9, _⟩ := h
  exact ⟨_, dx, fs, h0, T.c_Lifting, T.n_Lifting_layers, h3⟩
theorem LifAt0.f_reasons {K : PySem.W.Frag} {mg : Str → Option Value} {H : Hp} {p : Addr} {rw st la re he : Addr} {kn : Nat} (T : Txt K mg) (h : LifAt0 K H p rw st la re he kn) : Has K H p "reasons" (V.ref re) := by
  obtain ⟨dx, fs, h0, h1, h2, h3, h4, h5, h6, h7, h8, h9, _⟩ := h
  exact ⟨_, dx, fs, h0, T.c_Lifting, T.n_Lifting_reasons, h4⟩
theorem LifAt0.f_heights {K : PySem.W.Frag} {mg : Str → Option Value} {H : Hp} {p : Addr} {rw st la re he : Addr} {kn : Nat} (T : Txt K mg) (h : LifAt0 K H p rw st la re he kn) : Has K H p "heights" (V.ref he) := by
  obtain ⟨dx, fs, h0, h1, h2, h3, h4, h5, h6, h7, h8, h9, _⟩ := h
  exact ⟨_, dx, fs, h0, T.c_Lifting, T.n_Lifting_heights, h5⟩
theorem LifAt0.f_known {K : PySem.W.Frag} {mg : Str → Option Value} {H : Hp} {p : Addr} {rw st la re he : Addr} {kn : Nat} (T : Txt K mg) (h : LifAt0 K H p rw st la re he kn) : Has K H p "known" (V.int (kn : Int)) := by
  obtain ⟨dx, fs, h0, h1, h2, h3, h4, h5, h6, h7, h8, h9, _⟩ := h
  exact ⟨_, dx, fs, h0, T.c_Lifting, T.n_Lifting_known, h6⟩
theorem LifAt0.m_open_days {K : PySem.W.Frag} {H : Hp} {p : Addr} {rw st la re he : Addr} {kn : Nat} (h : LifAt0 K H p rw st la re he kn) : ∃ dx fs, H p = some (.ins (ga K "Lifting") dx fs) ∧ fs.lookup ("open_days" : Str) = none := by
  obtain ⟨dx, fs, h0, h1, h2, h3, h4, h5, h6, h7, h8, h9, _⟩ := h
  exact ⟨dx, fs, h0, h7⟩
theorem LifAt0.m_settle {K : PySem.W.Frag} {H : Hp} {p : Addr} {rw st la re he : Addr} {kn : Nat} (h : LifAt0 K H p rw st la re he kn) : ∃ dx fs, H p = some (.ins (ga K "Lifting") dx fs) ∧ fs.lookup ("settle" : Str) = none := by
  obtain ⟨dx, fs, h0, h1, h2, h3, h4, h5, h6, h7, h8, h9, _⟩ := h
  exact ⟨dx, fs, h0, h8⟩
theorem LifAt0.m_run {K : PySem.W.Frag} {H : Hp} {p : Addr} {rw st la re he : Addr} {kn : Nat} (h : LifAt0 K H p rw st la re he kn) : ∃ dx fs, H p = some (.ins (ga K "Lifting") dx fs) ∧ fs.lookup ("run" : Str) = none := by
  obtain ⟨dx, fs, h0, h1, h2, h3, h4, h5, h6, h7, h8, h9, _⟩ := h
  exact ⟨dx, fs, h0, h9⟩

end U
set_option maxHeartbeats 4100000
namespace U
open L2 PyProof.Rows PySem PySem.Spec
section
variable {X : Cx} {CX : CXT} {k : Nat} {C g : Addr} {fd : FuncData} {ps : List Str} {sp : Sp} {E : XK}
theorem raw0 {P : Program} {w : World} {K : PySem.W.Frag} {mg : Str → Option Value} {base : Heap} (F : FnOk P w K mg base CX k g fd ps sp) (hb : Binds K fd ps []) : FnR P w K mg base CX k g sp :=
  (F.raw hb .nil).imp fun vs H Q E h => by rw [List.append_nil]; exact h
/-- the instance at a -/
theorem inst_at {held : List (Addr × Obj)} {σ : L2.St} {H : Hp} {s : Shared} {a dx : Addr} {fs : List (Str × V)} (Iv : Inv X held σ H s) (e : H a = some (.ins C dx fs)) : ∃ od, PySem.W.InstAt s.heap a (PySem.W.instObj C dx) C (some od) := by
  obtain ⟨mA, O, _, _, _, _⟩ := ins_get Iv.hok e
  obtain ⟨od, J, _⟩ := O.look
  exact ⟨od, J⟩
/-- len(x) of an instance, by els own __len__ -/
def rLenOwn (C : Addr) (sp : Sp) (E : XK) : List V → Hp → VK → Prop := fun xs H Q => ∃ a dx fs, xs = [V.ref a] ∧ H a = some (.ins C dx fs) ∧ sp [.ref a] H (fun got Hb => ∃ n : Int, got = .int n ∧ 0 ≤ n ∧ n < 2 ^ 63 ∧ Q (.int n) Hb) E
theorem call_lenOwn (hm : Meth X.K C "__len__" g) (F : FnR X.prog X.w X.K X.mg X.base CX k g sp) (hr : Room (k + 1) X.A) (hx : Passes CX X E) : CallR X (.builtin "len") (rLenOwn C sp E) := by
  intro held s σ H xs us Q Iv r h
  obtain ⟨a, dx, fs, rfl, e, q⟩ := h
  obtain ⟨u, rfl, relU⟩ := r.one
  cases (show u = Value.ref a from relU)
  obtain ⟨od, J⟩ := inst_at Iv e
  refine Calls.call_function_entry PySem.kind_len PySem.plain_len PySem.entry_len (PySem.args_len1 _) ?_
  unfold Builtin.«len»
  refine wpAny_bind (m := oneArg "len" _) ?_
  refine wpAny_pure ?_
  refine wpAny_bind (m := callSpecial? (.ref a) (Str.ofString "__len__")) (PySem.W.special_fn Iv.kIn J hm.at_ (beq_iff_eq.mp hm.fn) (wpAny_mono (wpAny_call (SlX.run_at (us := [.ref a]) (ws := [.ref a]) F hr.in1 Iv.env0.in1 hx Iv (.cons rfl .nil) q)) (fun r s' hr => ?_) fun _ _ y => y))
  obtain ⟨got, Hb, Ib, relB, n, ez, h0, h1, hq⟩ := hr
  subst ez
  obtain ⟨t, rfl⟩ := (show ∃ t, r = Value.int n t from relB)
  refine wpAny_bind (wpAny_holding (wpAny_pure (wpAny_bind (wpAny_letGo ?_))))
  show wpAny _ _ (ite (n < 0) _ _) _ _ _
  rw [if_neg (by omega)]
  show wpAny _ _ (ite (n ≥ 2 ^ 63) _ _) _ _ _
  rw [if_neg (by omega)]
  exact wpAny_bind (wpAny_mkInt (wpAny_pure ⟨_, rfl, V.int n, Hb, Ib.tok _, ⟨_, rfl⟩, hq⟩))
/-- x + y of two instances of one class, by els own __add__ -/
def rAddOwn (C : Addr) (sp : Sp) (E : XK) : R2 := fun x y H Q => ∃ a dx fs b dy gs, x = .ref a ∧ y = .ref b ∧ H a = some (.ins C dx fs) ∧ H b = some (.ins C dy gs) ∧ sp [x, y] H Q E
theorem op_addOwn (hm : Meth X.K C "__add__" g) (hc : PySem.W.selfFirst X.K C = true) (F : FnR X.prog X.w X.K X.mg X.base CX k g sp) (hr : Room k X.A) (hx : Passes CX X E) : OpR X (binaryOp .Add) (rAddOwn C sp E) := by
  intro held s σ H x y v u Q Iv relX relY h
  obtain ⟨a, dx, fs, b, dy, gs, rfl, rfl, ha, hb, q⟩ := h
  cases (show v = Value.ref a from relX)
  cases (show u = Value.ref b from relY)
  obtain ⟨od, J⟩ := inst_at Iv ha
  obtain ⟨od', J'⟩ := inst_at Iv hb
  obtain ⟨m, hF⟩ := Iv.fr
  refine PySem.W.binop_K (op := .Add) hF Iv.ok.mod.kin J J'.type hc (show PySem.W.findIn X.K (.ref C) (PySem.dunder Operator.Add.info.2) = some (some (.ref g)) from hm.at_) hm.fn ?_
  refine wpAny_mono (wpAny_call (run_fnR (us := [.ref a, .ref b]) (vs := [.ref a, .ref b]) F hr hx Iv (.cons rfl (.cons rfl .nil)) q)) (fun w s' got => ?_) fun _ _ x => x
  obtain ⟨back, Hb, Ib, relB, finB⟩ := got
  exact SlX.cmpback relB ⟨back, Hb, Ib, relB, finB⟩
/-- o[i] of an instance, by els own __getitem__ -/
def rIxOwn (C : Addr) (sp : Sp) (E : XK) : R2 := fun x y H Q => ∃ a dx fs, x = .ref a ∧ H a = some (.ins C dx fs) ∧ sp [x, y] H Q E
theorem pe_ixOwn {a b : Expr} {ta tb : TE} {pos : Pos} (hm : Meth X.K C "__getitem__" g) (hf : PySem.W.fnIn X.K g = true) (F : FnR X.prog X.w X.K X.mg X.base CX k g sp) (hr : Room (k + 1) X.A) (hx : Passes CX X E)
    (ha : PE X a ta) (hb : PE X b tb) (hsl : ∀ x i, subscripted b true (.ref x) i = runValue (.builtin "lifetime.subscript" ⟨[.ref x, i], []⟩) := by intro _ _; with_unfolding_all rfl) : PE X (.Subscript a b pos) (tOp (rIxOwn C sp E) ta tb) := by
  refine ⟨fun held s σ H Q Iv h => ?_⟩
  refine Subscript_ (binT ha hb Iv h fun v u s2 x y H2 I2 relX relY q => ?_)
  obtain ⟨p, dx, fs, rfl, e, q⟩ := q
  cases (show v = Value.ref p from relX)
  obtain ⟨od, J⟩ := inst_at I2 e
  obtain ⟨m, hF⟩ := I2.fr
  refine PySem.W.sub_K hF I2.ok.mod.kin J hm.at_ hf hm.fn ?_ (hsl _ _)
  exact wpAny_call (SlX.run_at (us := [.ref p, u]) (ws := [.ref p, y]) F hr.in1 I2.env0.in1 hx I2 (.cons rfl (.cons relY .nil)) q)
/-- C.m(), m a classmethod -/
theorem pe_cmeth0 {p : Addr} {mc : Value} {o : Expr} {m : Str} {ta : TE} {pos apos : Pos} {pl : Sem Bool} (hen : PE X o ta) (r : ClX.CRead X.K C mc) (c : ClX.CMet X.K C mc m p g) (F : FnR X.prog X.w X.K X.mg X.base CX k g sp) (hr : Room k X.A) (hx : Passes CX X E)
    (how : eval (.Call (.Attribute o m apos) [] [] pos) X.env = (do
      let recv ← eval o X.env
      standAt apos.atName
      let (fn, ahead) ← holding [recv] (getMethod recv m pl)
      callWith pos fn ahead (backTo pos (starEach [] X.env)) (backToKw pos (keywordEach [] X.env))) := by rfl) :
    PE X (.Call (.Attribute o m apos) [] [] pos) (ClX.tCMeth C sp E ta tNil) := by
  refine ⟨fun held s σ H Q Iv h => ?_⟩
  refine PySem.W.methodCall_KW (pl := pl) (thn (hen.run held s σ H _ Iv h) fun u s1 ⟨x, H1, I1, relX, ex, q⟩ => ?_) how
  subst ex
  obtain rfl : u = Value.ref C := relX
  refine ClX.getmethcm_ok I1 r c fun s2 I2 => ?_
  refine PySem.W.callWith_M0 (first := []) ⟨ClX.pin_at I2, I2.kIn⟩ c.fi ?_
  exact ClX.run_cm F hr hx I2 .nil q
/-! ### a body run at one given state; x's own iterator over a tuple -/
theorem run_s {P : Program} {w : World} {K : PySem.W.Frag} {mg : Str → Option Value} {base : Heap} {x qual : Str} {st : Stmt} {f : Addr} {N : List Str} {A : Around} {outer : List Env} {s : Shared} {H : Hp} {us : List Value} {vs : List V} {Q : VK}
    (F : Fun K x qual st f fd) (S : FnScope N ps (defScope st)) (hr : Room (k + 1) A) (e0 : Env0 P w K mg base A outer s H) (hb : BindsTo s fd ⟨us, []⟩ (ps.zip us)) (r : Vals vs us) (hl : vs.length = ps.length)
    (body : ∀ cdvv : Value, Room k (A.deeper (envOfC qual (defScope st) s.heap.objs.size f cdvv)) →
      ∃ t, PSs (cxOf CX P w K mg base N qual (defScope st) f cdvv A outer s H E) (defBody st) t ∧ t ⟨fun _ Hb => Q .non Hb, Q, fun _ _ => False, fun _ _ => False⟩ (L2.start N vs) H) :
    codeAny (model P w) A (.call (.ref f) ⟨us, []⟩) (CR CX outer P w H s Q E) s := by
  obtain ⟨ocl, od, kV, doc, pm, an, cdvv, ct, osv, rfl, look, hcode⟩ := F.ex
  have up := fun b o e => (e0.bs b o e).1
  have inK : K.In s.heap := e0.mod.kin.keeps up
  have par : ∀ y ∈ ps.zip us, (defScope st).names.lookup y.1 = some .local ∨ ((defScope st).names.lookup y.1 = some .cell ∧ ((cellsFrom (s.heap.objs.size + 1) (defScope st).names []).lookup y.1).isSome = true) := by
    intro y hy
    obtain ⟨n, v⟩ := y
    exact (S.par n (List.of_mem_zip hy).1).elim .inl fun q => .inr ⟨q, PySem.W.cellsFrom_some _ _ _ (.inl q)⟩
  refine codeAny_call_function hr.depth (inK _ _ look) rfl S.co S.gen rfl (PySem.W.codeRec_of inK hcode) (hb _ _ _ _ (wpAny_newFunctionEnv_cells S.kind par ?_))
  intro env hen s1 x
  subst hen
  obtain ⟨t, ht, hq⟩ := body cdvv (hr.deeper _)
  have Iv := inv_start (CX := CX) (E := E) S hr.hd e0 hl r x
  refine ⟨(e0.mod.nolimit.keeps up).keeps x.toInCall.keep, codeAny_func (wpAny_mono (ht.run [] s1 _ H _ Iv hq) ?_ fun e s' hs => hs)⟩
  intro fl s' hs
  cases fl with
  | ret u => obtain ⟨v, σ', Hb, J, relV, q⟩ := hs; exact ⟨v, Hb, J.os, J.bare, J.base, J.hok, relV, q⟩
  | next => obtain ⟨σ', Hb, J, q⟩ := hs; exact ⟨.non, Hb, J.os, J.bare, J.base, J.hok, rfl, q⟩
  | brk => exact match hs with | ⟨_, _, _, no⟩ => False.elim no
  | cont => exact match hs with | ⟨_, _, _, no⟩ => False.elim no
/-- the tuple's iterator at it, at its start -/
def ItTO (t it : Addr) : HO := .ext fun h => h.IsTupleIter it t 0
theorem itT_ok {P : Program} {w : World} {H : Hp} {h : Heap} {t it : Addr} (e : h.IsTupleIter it t 0) : ObjOk P w H h it (ItTO t it) := by
  have e2 := e
  obtain ⟨o, hob, _⟩ := e2
  exact ⟨e, ⟨o, hob⟩, fun h1 h2 q k => q.at fun o e => k o e⟩
/-- iter(t), t a tuple: a young one -/
def rIterT (K : PySem.W.Frag) (n : Nat) : List V → Hp → VK → Prop := fun xs H Q => ∃ (t : Addr) (zs : List V), xs = [.ref t] ∧ SqT K H t zs ∧ ∀ it, H it = Option.none → n ≤ it → Q (.ref it) (upd H it (ItTO t it))
theorem call_iterT : CallR X (.builtin "iter") (rIterT X.K X.s_0.heap.objs.size) := by
  intro held s σ H xs us Q Iv r h
  obtain ⟨t, zs, rfl, hq, q⟩ := h
  obtain rfl := Vals.ref1 r
  obtain ⟨els, relV, pl, hz⟩ := Iv.tuple hq
  have new : (s.heap.push { cls := .type "tuple_iterator", data := .fields #[.ref t, .int 0 0] }).IsTupleIter s.heap.objs.size t 0 := ⟨_, Heap.get?_push_size _ rfl, rfl, rfl⟩
  have fin : EP X held σ Q (.ref s.heap.objs.size) { s with heap := s.heap.push { cls := .type "tuple_iterator", data := .fields #[.ref t, .int 0 0] } } :=
    ⟨.ref s.heap.objs.size, _, Iv.laid (t' := s.toks) (fun b u e => Heap.get?_push_of_some _ e) (Nat.le_refl _) (itT_ok new), rfl, q _ (Iv.hok.fresh (Nat.le_refl _)) Iv.sz⟩
  have kind : _ := PySem.W.kdk_entry_iter
  refine Calls.call_function_entry (by decide +kernel) (by decide +kernel) kind (PySem.W.kdk_args_iter _) ?_
  unfold Builtin.«iter»
  refine wpAny_bind (m := someArgs "iter" 1 2 _) (wpAny_of_eq (a := [Value.ref t]) (by first | rfl | kernel_rfl!) ?_)
  show wpAny _ _ (pyIter (.ref t) >>= _) _ _ _
  exact wpAny_bind (wpAny_pyIter_tuple (show s.heap.IsTuple t els.toArray from pl) (wpAny_pure ⟨_, rfl, fin⟩))
/-- x.__iter__() hands back the young iterator of the tuple at t -/
def IterOf (X : Cx) (C g t a : Addr) (H : Hp) (k : Nat) : Prop := ∀ (A : Around) (s : Shared), Room k A → Env0 X.prog X.w X.K X.mg X.base A X.stack s H →
  codeAny (model X.prog X.w) A (.call (.ref g) ⟨[.ref a], []⟩) (CR CX0 X.stack X.prog X.w H s (fun v Hb => ∃ it, v = .ref it ∧ H it = Option.none ∧ s.heap.objs.size ≤ it ∧ Hb = upd H it (ItTO t it)) E0) s
theorem tupIter_next {M : Model} {A : Around} {E : Value → Shared → Prop} {s : Shared} {it t : Addr} {i : Nat} {Q : Value → Shared → Prop} (h : s.heap.IsTupleIter it t i) (q : Q (.ref it) s) : PySem.W.OwitIt M A Q E (.ref it) s := by
  obtain ⟨o, hob, hc, hd⟩ := h
  unfold PySem.W.OwitIt specialOf
  exact wpAny_bind (wpAny_typeOf (T := "tuple_iterator") ⟨_, hob, hc⟩ (wpAny_of_eq PySem.F.slot_tuple_iterator_next.lookup q))
theorem pyIter_own {held : List (Addr × Obj)} {σ : L2.St} {H : Hp} {s : Shared} {A : Around} {a dx t : Addr} {fs : List (Str × V)} (Iv : Inv X held σ H s) (ha : H a = some (.ins C dx fs)) (hm : Meth X.K C "__iter__" g) (hi : IterOf X C g t a H k) (hr : Room k A)
    (e0 : Env0 X.prog X.w X.K X.mg X.base A X.stack s H) {Ex : Value → Shared → Prop} :
    wpAny (model X.prog X.w) A (pyIter (.ref a)) (fun v s' => ∃ it, v = .ref it ∧ s'.heap.IsTupleIter it t 0 ∧ Inv X held σ H s' ∧ FpOk X held H it ∧ s.heap.objs.size ≤ it) Ex s := by
  obtain ⟨od, J⟩ := inst_at Iv ha
  obtain ⟨m, hF⟩ := Iv.fr
  refine PySem.W.owit_iter hF Iv.ok.mod.kin J hm.at_ hm.fn (wpAny_call (codeAny_mono (hi A s hr e0) fun r s' got => ?_))
  cases r with
  | error e => exact False.elim got
  | ok fl =>
    cases fl with
    | ret u =>
      obtain ⟨v, Hb, Ib, relV, it, ev, hn, hz, eH⟩ := Iv.after got
      subst ev eH
      cases relV
      have hit : upd H it (ItTO t it) it = some (ItTO t it) := upd_same
      have st := (Ib.hok it _ hit).1
      have I2 := ItX.inv_drop Ib (show upd H it (ItTO t it) it = some (.ext _) from hit)
      have fp := ItX.inv_fp Ib hit (Nat.le_trans Iv.sz hz)
      rw [ItX.dropH_upd hn] at I2 fp
      exact tupIter_next st ⟨it, rfl, st, I2, fp, hz⟩
    | next => exact False.elim got
    | brk => exact False.elim got
    | cont => exact False.elim got
/-- for x in e, e an instance whose own __iter__ hands back the iterator of the tuple at t -/
def iOwnT (X : Cx) (C g : Addr) (k : Nat) (te : TE) : TI := fun σ H R => te σ H fun x H1 => ∃ a dx fs t xs, x = .ref a ∧ H1 a = some (.ins C dx fs) ∧ SqT X.K H1 t xs ∧ IterOf X C g t a H1 k ∧ R (Itt X.K t) H1
theorem pi_ownT {tg e : Expr} {te : TE} (hen : PE X e te) (hm : Meth X.K C "__iter__" g) (hr : Room k X.A) : PI X tg e (iOwnT X C g k te) := by
  refine ⟨fun held s σ H R Iv h => thn (hen.run held s σ H _ Iv h) fun v s1 got => ?_⟩
  obtain ⟨x, H1, I1, r1, a, dx, fs, t, xs, rfl, ha, hq, hi, q⟩ := got
  cases r1
  refine wpAny_mono (pyIter_own I1 ha hm hi hr I1.env0 (Ex := X.xe)) (fun v s2 got => ?_) fun _ _ got => got
  obtain ⟨it, rfl, st, I2, fp, _⟩ := got
  exact ⟨it, [it], _, _, H1, rfl, I2, turn_tuple t it, st, fun b hb => by rw [List.mem_singleton.mp hb]; exact fp, q⟩
/-! ### enumerate of a tuple, of such an instance -/
def Iet (K : PySem.W.Frag) (a : Addr) : It :=
  ⟨fun i H => ∃ (xs : List V) (x : V), SqT K H a xs ∧ xs[i]? = some x, fun i H v Hb => ∃ T x, v = .ref T ∧ H T = Option.none ∧ Hb = upd H T (.tup [.int (i : Nat), x]) ∧ ∀ xs, SqT K H a xs → xs[i]? = some x, fun i H => ∃ xs : List V, SqT K H a xs ∧ xs.length = i⟩
theorem turn_enumT {P : Program} {w : World} {K : PySem.W.Frag} {elts : List Expr} {kk : Nat} {tpos : Pos} (a e it : Addr) (hae : a ≠ it) :
    Turn P w K (.Tuple elts kk tpos) (Iet K a) [e, it] e (fun i h => (∃ was, IsEnum h e it ((i : Nat) : Int) was) ∧ h.IsTupleIter it a i ∧ e ≠ it ∧ a ≠ e) where
  mem := List.mem_cons_self
  obj := fun i h st b hb => by
    obtain ⟨⟨was, hen⟩, ⟨o, hob, hc, hd⟩, _⟩ := st
    rcases List.mem_cons.mp hb with got | got
    · rw [got]; exact ⟨_, hen, fun v q => nomatch q⟩
    · rw [List.mem_singleton.mp got]; exact ⟨o, hob, fun v q => by rw [hd] at q; cases q⟩
  keep := fun i h hp2 st k => ⟨⟨st.1.choose, k e List.mem_cons_self _ st.1.choose_spec⟩, st.2.1.at fun o got => k it (List.mem_cons_of_mem _ List.mem_cons_self) o got, st.2.2⟩
  item := by
    intro X hP hw hK hc i held s σ H E Iv hf st hg
    subst hP hw hK
    obtain ⟨⟨was, hen⟩, hit, hne, hae2⟩ := st
    obtain ⟨xs, x, hq, hx⟩ := hg
    obtain ⟨els, relV, p, hz⟩ := Iv.tuple hq
    obtain ⟨u, hu, relU⟩ := relV.get hx
    have p : s.heap.IsTuple a els.toArray := p
    have ltE : e < s.heap.objs.size := Heap.lt_size hen
    have ltI : it < s.heap.objs.size := by obtain ⟨_, q, _⟩ := hit; exact Heap.lt_size q
    have hi : i < els.toArray.size := by
      obtain ⟨h1, _⟩ := List.getElem?_eq_some_iff.mp hu
      simpa using h1
    have D : Draws X.prog X.w X.A.in1 it [it, a] els.toArray.size _ _ := Draws.tuple (A := X.A.in1) (Iv.ok.hd hc) it a hae els.toArray
    refine wpAny_pyNext_enum_itemD D hen ⟨hit, p⟩ hi hne (by simp [hne, hae2.symm]) fun y hp2 tok hy hob hst hT hsz hk => ?_
    have ey : y = u := by
      have hy2 : els.toArray[i]? = some y := hy
      rw [List.getElem?_toArray, hu] at hy2
      exact (Option.some.inj hy2).symm
    subst ey
    refine ⟨_, rfl, wpAny_letOwnedTupleGo_enum (s := { s with heap := hp2, toks := tok + 1 }) hob fun h'' he' sb => ?_⟩
    have hT2 := (sb.2 _ (Nat.ne_of_gt ltE)).trans hT
    have laid : ObjOk X.prog X.w (upd H s.heap.objs.size (.tup [.int (i : Nat), x])) h'' s.heap.objs.size (.tup [.int (i : Nat), x]) :=
      ⟨by show 2 ≤ sizeLine; decide, _, .cons ⟨_, rfl⟩ (.cons relU .nil), ⟨_, hT2, rfl, _, rfl⟩⟩
    have I1 : Inv X held σ (upd H s.heap.objs.size (.tup [.int (i : Nat), x])) { s with heap := h'', toks := tok + 1 } :=
      Iv.turnedNew (ch := [e, it]) (fun b ob hb q => by
        have b1 : b ≠ e := fun got => hb (by simp [got])
        have b2 : b ≠ it := fun got => hb (by simp [got])
        exact (sb.2 b b1).trans (hk b ob b1 b2 q)) hf (Nat.le_refl _) laid
    refine ⟨.ref s.heap.objs.size, _, I1, rfl, ⟨_, x, rfl, Iv.hok.fresh (Nat.le_refl _), rfl, fun ys hy => ?_⟩, ⟨⟨y, ?_⟩, hst.1.at fun o q => (sb.2 it (Ne.symm hne)).trans q, hne, hae2⟩, fun b hb => ?_⟩
    · rw [Iv.tuple_inj hy hq]; exact hx
    · have eqI : ((i + 1 : Nat) : Int) = (i : Int) + 1 := by omega
      rw [eqI]; exact he'
    · have hbt : b < s.heap.objs.size := by
        rcases List.mem_cons.mp hb with got | got
        · rw [got]; exact ltE
        · rw [List.mem_singleton.mp got]; exact ltI
      rw [upd_ne (Nat.ne_of_lt hbt)]
      exact (hf b hb).1
  done := by
    intro X hP hw hK hc i held s σ H E Iv hf st hg
    subst hP hw hK
    obtain ⟨⟨was, hen⟩, hit, hne, hae2⟩ := st
    obtain ⟨xs, hq, hx⟩ := hg
    obtain ⟨els, relV, p, hz⟩ := Iv.tuple hq
    obtain ⟨f0, f1, f2, f3, f4, f5⟩ := hf it (List.mem_cons_of_mem _ List.mem_cons_self)
    have hn : els.toArray.size = i := by rw [List.size_toArray, ← relV.length]; exact hx
    have D : Draws X.prog X.w X.A.in1 it [it, a] els.toArray.size _ _ := Draws.tuple (A := X.A.in1) (Iv.ok.hd hc) it a hae els.toArray
    refine wpAny_pyNext_enum_endD D hen ⟨by rw [hn]; exact hit, p⟩ fun hp2 eb => ⟨rfl, Iv.turned (t' := s.toks) (fun b o hb q => eb b o hb q) f0 f1 f3 f4 f5⟩
  self := fun A i s Q E st h => wpAny_pyIter_enum st.1.choose_spec h
end
end U
set_option maxHeartbeats 4100000
namespace U
open L2 PyProof.Rows PySem PySem.Spec
section
variable {X : Cx} {CX : CXT} {k : Nat} {C g : Addr} {fd : FuncData} {ps : List Str} {sp : Sp} {E : XK}
theorem enum_new {prog : Program} {w : World} {A : Around} {v : Value} {Q : Value → Shared → Prop} {Ex : Value → Shared → Prop} {s : Shared}
    (h : ∀ Ex : Value → Shared → Prop, wpAny (model prog w) A (pyIter v) (fun r s1 => ∃ it, r = .ref it ∧ Q (.ref s1.heap.objs.size) { s1 with heap := s1.heap.push { cls := .type "enumerate", data := .fields #[.none, .bool false, .ref it, rawInt 0, .none, .none] } }) Ex s) :
    wpAny (model prog w) A (Builtin.«enumerate.__new__» ⟨[.type "enumerate", v], []⟩) (fun fin s' => ∃ r, fin = PySem.Fin.done (.ret r) ∧ Q r s') Ex s := by
  have hsub := PySem.sub_enumerate
  obtain ⟨hp, g, d, tok, os⟩ := s
  have q1 : ∀ {E : Value → Shared → Prop} {Q' : Value → Shared → Prop}, (∀ it s1, Q (.ref s1.heap.objs.size) { s1 with heap := s1.heap.push { cls := .type "enumerate", data := .fields #[.none, .bool false, .ref it, rawInt 0, .none, .none] } } → Q' (.ref it) s1) → wpAny (model prog w) A (pyIter v) Q' E ⟨hp, g, d, tok, os⟩ :=
    fun q => wpAny_mono (h _) (fun r s1 got => by obtain ⟨it, rfl, hq⟩ := got; exact q it s1 hq) fun _ _ got => got
  unfold Builtin.«enumerate.__new__»
  wp_walk using q1
  refine wpAny_stack_any fun below => wpAny_pure ?_
  split
  · rename_i c _ _ _ _ _
    cases (c == .type "enumerate" : Bool)
    · wp_walk using q1
      intro it s1 hq
      obtain ⟨hpA, gA, dA, tokA, osA⟩ := s1
      wp_walk
      exact ⟨_, rfl, hq⟩
    · wp_walk using q1
      intro it s1 hq
      obtain ⟨hpA, gA, dA, tokA, osA⟩ := s1
      wp_walk
      exact ⟨_, rfl, hq⟩
  · wp_walk using q1
    intro it s1 hq
    obtain ⟨hpA, gA, dA, tokA, osA⟩ := s1
    wp_walk
    exact ⟨_, rfl, hq⟩
theorem call_enum {prog : Program} {w : World} {A : Around} {v : Value} {Q : Value → Shared → Prop} {Ex : Value → Shared → Prop} {s : Shared}
    (h : ∀ Ex : Value → Shared → Prop, wpAny (model prog w) A.in1.in1 (pyIter v) (fun r s1 => ∃ it, r = .ref it ∧ Q (.ref s1.heap.objs.size) { s1 with heap := s1.heap.push { cls := .type "enumerate", data := .fields #[.none, .bool false, .ref it, rawInt 0, .none, .none] } }) Ex s) :
    wpAny (model prog w) A (call (.type "enumerate") [v]) Q Ex s := by
  let Q1 : Value → Shared → Prop := fun r s1 => s1.TypeIs r "enumerate" ∧ Q r s1
  refine callType_codes (T := "enumerate") (Bi := Builtin.«object.__init__») (Q₁ := Q1) PySem.F.called_enumerate (PySem.F.typeCall_enumerate_1 _) PySem.F.entry_object_init ?_ fun obj sA got => ?_
  · refine codeAny_of_tree ?_
    show wpAny _ A.in1.in1 (do checkBuiltinCall "enumerate.__new__" ⟨[.type "enumerate", v], []⟩; again (.builtin "enumerate.__new__" ⟨[.type "enumerate", v], []⟩)) _ _ s
    refine wpAny_bind (wpAny_of_eq (PySem.F.newCall_enumerate_1 _) (wpAny_pure ⟨plainId_quiet (by decide +kernel) _, codeAny_builtin PySem.F.entry_enumerate_new ?_⟩))
    rw [Around.under_plainId (by decide +kernel)]
    refine wpAny_mono (enum_new (Q := Q1) fun E2 => wpAny_mono (h E2) (fun r s1 got => ?_) fun _ _ y => y) (fun fin s' got => ?_) fun _ _ y => y
    · obtain ⟨it, rfl, hq⟩ := got
      exact ⟨it, rfl, ⟨_, Heap.get?_push_size _ rfl, rfl⟩, hq⟩
    · obtain ⟨r, rfl, hq⟩ := got
      exact hq
  · obtain ⟨ht, hq⟩ := got
    exact ⟨ht, PySem.F.args_object_init_2 _ _, object_init_meets PySem.F.called_enumerate.init.lookup PySem.F.called_enumerate.made (by decide) prog w A.in1 _ sA ⟨ht, rfl, hq⟩⟩
/-- an enumerate object has been laid over the tuple's iterator at it -/
theorem enum_come {held : List (Addr × Obj)} {σ : L2.St} {H : Hp} {s s0 : Shared} {a it : Addr} {xs : List V} {elts : List Expr} {kk : Nat} {tpos : Pos} {R : It → Hp → Prop} {Ex : Value → Shared → Prop} (I0 : Inv X held σ H s0) (Iv : Inv X held σ H s) (st : s.heap.IsTupleIter it a 0) (fp : FpOk X held H it) (hz : s0.heap.objs.size ≤ it) (hq : SqT X.K H a xs) (q : R (Iet X.K a) H) :
    wpAny (model X.prog X.w) X.A (pyIter (.ref s.heap.objs.size)) (PIE X held σ (.Tuple elts kk tpos) R) Ex { s with heap := s.heap.push { cls := .type "enumerate", data := .fields #[.none, .bool false, .ref it, rawInt 0, .none, .none] } } := by
  have hen : IsEnum (s.heap.push { cls := .type "enumerate", data := .fields #[.none, .bool false, .ref it, rawInt 0, .none, .none] }) s.heap.objs.size it ((0 : Nat) : Int) .none := Heap.get?_push_size _ rfl
  have ltI : it < s.heap.objs.size := by obtain ⟨_, got, _⟩ := st; exact Heap.lt_size got
  obtain ⟨els, relV, p0, hlen⟩ := I0.tuple hq
  obtain ⟨its1, rv1, p1, _⟩ := Iv.tuple hq
  have al0 : a < s0.heap.objs.size := by obtain ⟨_, got, _⟩ := p0; exact Heap.lt_size got
  have hai : a ≠ it := Nat.ne_of_lt (Nat.lt_of_lt_of_le al0 hz)
  have hae : a ≠ s.heap.objs.size := Nat.ne_of_lt (by obtain ⟨_, got, _⟩ := p1; exact Heap.lt_size got)
  refine wpAny_pyIter_enum hen ?_
  refine ⟨s.heap.objs.size, [s.heap.objs.size, it], _, _, H, rfl, Iv.kept (t' := s.toks) fun b u e => Heap.get?_push_of_some _ e, turn_enumT a s.heap.objs.size it hai, ⟨⟨.none, hen⟩, st.at fun o e => Heap.get?_push_of_some _ e, (Nat.ne_of_lt ltI).symm, hae⟩, fun b hb => ?_, q⟩
  rcases List.mem_cons.mp hb with got | got
  · rw [got]; exact Iv.fpOk (Nat.le_refl _) (Iv.hok.fresh (Nat.le_refl _))
  · rw [List.mem_singleton.mp got]; exact fp
def iEnumT (K : PySem.W.Frag) (ta : TA) : TI := fun σ H R => ta σ H fun vs H1 => ∃ a xs, vs = [.ref a] ∧ SqT K H1 a xs ∧ R (Iet K a) H1
theorem pi_enumT {e : Expr} {ta : TA} {p pos tpos : Pos} {elts : List Expr} {kk : Nat} (hg : Gl X "enumerate") (hm : X.mg "enumerate" = none) (ha : PA X [e] ta) (hs : starEach [e] X.env = [(false, eval e X.env)] := by rfl) :
    PI X (.Tuple elts kk tpos) (.Call (.Name "enumerate" p) [e] [] pos) (iEnumT X.K ta) := by
  refine ⟨fun held s σ H R Iv h => Call_ (ld_blt Iv hg hm boot_enumerate (PyProof.Rows.callWith_type1 (thn (ha.run pos held s σ H _ Iv h) fun us s1 got => ?_) hs rfl))⟩
  obtain ⟨vs, H1, I1, r1, a, xs, ex, hq, q⟩ := got
  subst ex
  obtain rfl := Vals.ref1 r1
  obtain ⟨els, relV, p1, hz⟩ := I1.tuple hq
  refine call_enum fun E2 => wpAny_pyIter_tuple (show s1.heap.IsTuple a els.toArray from p1) ⟨s1.heap.objs.size, rfl, ?_⟩
  have I2 : Inv X held σ H1 { s1 with heap := s1.heap.push { cls := .type "tuple_iterator", data := .fields #[.ref a, .int 0 0] } } := I1.kept (t' := s1.toks) fun b u e => Heap.get?_push_of_some _ e
  exact enum_come I1 I2 ⟨_, Heap.get?_push_size _ rfl, rfl, rfl⟩ (I1.fpOk (Nat.le_refl _) (I1.hok.fresh (Nat.le_refl _))) (Nat.le_refl _) hq q
def iEnumO (X : Cx) (C g : Addr) (k : Nat) (ta : TA) : TI := fun σ H R => ta σ H fun vs H1 => ∃ a dx fs t xs, vs = [.ref a] ∧ H1 a = some (.ins C dx fs) ∧ SqT X.K H1 t xs ∧ IterOf X C g t a H1 k ∧ R (Iet X.K t) H1
theorem pi_enumO {e : Expr} {ta : TA} {p pos tpos : Pos} {elts : List Expr} {kk : Nat} (hmi : Meth X.K C "__iter__" g) (hr : Room (k + 2) X.A) (hg : Gl X "enumerate") (hm : X.mg "enumerate" = none) (ha : PA X [e] ta) (hs : starEach [e] X.env = [(false, eval e X.env)] := by rfl) :
    PI X (.Tuple elts kk tpos) (.Call (.Name "enumerate" p) [e] [] pos) (iEnumO X C g k ta) := by
  refine ⟨fun held s σ H R Iv h => Call_ (ld_blt Iv hg hm boot_enumerate (PyProof.Rows.callWith_type1 (thn (ha.run pos held s σ H _ Iv h) fun us s1 got => ?_) hs rfl))⟩
  obtain ⟨vs, H1, I1, r1, a, dx, fs, t, xs, ex, hi, hq, hob, q⟩ := got
  subst ex
  obtain rfl := Vals.ref1 r1
  have hr2 : Room k X.A.in1.in1 := (show Room (k + 1) X.A.in1 from hr.in1).in1
  refine call_enum fun E2 => wpAny_mono (pyIter_own I1 hi hmi hob hr2 I1.env0.in1.in1) (fun v s2 got => ?_) fun _ _ got => got
  obtain ⟨it, rfl, st, I2, fp, hz⟩ := got
  exact ⟨it, rfl, enum_come I1 I2 st fp hz hq q⟩
theorem walk_enumT {K : PySem.W.Frag} {a : Addr} {xs : List V} : Walk (Iet K a) xs.length (fun H => SqT K H a xs) (YPair (fun i => some (.int (i : Nat))) (fun i => xs[i]?)) := by
  refine ⟨fun i _ hi q => ⟨xs, xs[i], q, by simp [hi]⟩, fun _ q => ⟨xs, q, rfl⟩, fun i H v Hb _ q y => ?_⟩
  obtain ⟨tp, x, hv, hfree, hH, hx⟩ := y
  exact ⟨tp, .int (i : Nat), x, hv, hfree, hH, rfl, hx xs q⟩
/-- min(t) of a tuple of ints; min(xs, default=None) of an empty list -/
def rMinT (K : PySem.W.Frag) : List V → Hp → VK → Prop := fun vs H Q => ∃ (a : Addr) (ns : List Int), vs = [V.ref a] ∧ SqT K H a (ns.map V.int) ∧ 0 < ns.length ∧ ∀ m : Int, m ∈ ns → (∀ y ∈ ns, m ≤ y) → Q (.int m) H
theorem depth_ints : ∀ ns : List Int, PyData.depthAll (ns.map PyData.int) = 0
  | [] => rfl
  | n :: r => by
    have ih := depth_ints r
    simp [PyData.depthAll, PyData.depth, ih]
theorem alike_ints (ns : List Int) : PySem.W.AlikeAll (ns.map PyData.int) := by
  refine ⟨fun x hx y hy => ?_, fun x hx e => ?_⟩
  · obtain ⟨a, _, rfl⟩ := List.mem_map.mp hx
    obtain ⟨k, _, rfl⟩ := List.mem_map.mp hy
    rfl
  · obtain ⟨a, _, rfl⟩ := List.mem_map.mp hx
    cases e
theorem foldmin_mem : ∀ (r : List Int) (n : Int), r.foldl min n ∈ n :: r ∧ ∀ y ∈ n :: r, r.foldl min n ≤ y
  | [], n => ⟨List.mem_cons_self, fun y hy => by rw [List.mem_singleton.mp hy]; exact Int.le_refl _⟩
  | k :: r, n => by
    obtain ⟨h1, h2⟩ := foldmin_mem r (min n k)
    refine ⟨?_, fun y hy => ?_⟩
    · rcases List.mem_cons.mp h1 with h | h
      · show r.foldl min (min n k) ∈ _
        rw [h]
        by_cases c : n ≤ k
        · rw [Int.min_eq_left c]; exact List.mem_cons_self
        · rw [Int.min_eq_right (by omega)]; exact List.mem_cons_of_mem _ List.mem_cons_self
      · exact List.mem_cons_of_mem _ (List.mem_cons_of_mem _ h)
    · show r.foldl min (min n k) ≤ y
      have h0 := h2 (min n k) List.mem_cons_self
      rcases List.mem_cons.mp hy with isN | h
      · rw [isN]; exact Int.le_trans h0 (Int.min_le_left _ _)
      · rcases List.mem_cons.mp h with h | h
        · rw [h]; exact Int.le_trans h0 (Int.min_le_right _ _)
        · exact h2 y (List.mem_cons_of_mem _ h)
theorem cr_minT (hc : X.calm = true) (hu : X.A.units + 64 < cLine) : CallR X (.builtin "min") (rMinT X.K) := by
  intro held s σ H vs us Q Iv r h
  obtain ⟨a, ns, rfl, hs, some0, q⟩ := h
  obtain ⟨els, relV, p, _⟩ := Iv.tuple hs
  obtain rfl := Vals.ref1 r
  cases ns with
  | nil => cases some0
  | cons n rest =>
    have rd := PyProof.Rows.IntsAre.reads s.heap relV.ints
    obtain ⟨f1, f2⟩ := foldmin_mem rest n
    refine PySem.W.min_tuple_data (x := .int n) (xs := rest.map PyData.int) (Iv.ok.hd hc) (show s.heap.IsTuple a els.toArray from p) (by simpa using rd) (alike_ints (n :: rest)) (by have := depth_ints (n :: rest); simp only [List.map_cons] at this; rw [this]; omega) fun i v hp2 tok bs hv hr hk => ?_
    rw [PySem.W.minD_ints] at hr
    cases hr with
    | int _ t => exact ⟨.int _, H, Iv.kept hk, ⟨_, rfl⟩, q _ f1 f2⟩
end
end U
set_option maxHeartbeats 4100000
namespace U
open L2 PyProof.Rows PySem PySem.Spec
section
variable {P : Program} {w : World} {A : Around} {s : Shared} {E : Value → Shared → Prop}
abbrev nSet (w : World) : Obj := { cls := .type "set", dict := none, data := .set #[] 0 (.fresh 0 0 (!w.params.followText "set-order")) }
set_option maxHeartbeats 8100000 in
/-- set(l), l a list of ints, with the set's order kept -/
theorem set_listI {l : Addr} {items : Array Value} (ns : List Int) {Q : Value → Shared → Prop} (hh : A.handled = none) (hl : s.heap.IsList l items) (hit : IntsAre items.toList ns) (hb : ns.length + 1 < scanBound)
    (h : ∀ (hp2 : Heap) (tok c : Nat), SetR w hp2 s.heap.objs.size (fun j => decide (j ∈ ns)) c → c ≤ ns.length → (∀ b o, s.heap.get? b = some o → hp2.get? b = some o) → Q (.ref s.heap.objs.size) { s with heap := hp2, toks := tok }) :
    wpAny (model P w) A (PySem.call (.type "set") [.ref l]) Q E s := by
  have hisz : items.size = ns.length := by have q := IntsAre.length hit; rw [Array.length_toList] at q; exact q
  have up : ∀ (o2 : Obj) b o, s.heap.get? b = some o → ((s.heap.push (nSet w)).push o2).get? b = some o := fun _ _ _ e => Heap.get?_push_of_some _ (Heap.get?_push_of_some _ e)
  obtain ⟨c, tl, hmr⟩ := PySem.F.called_set.mro
  have hmd := PySem.F.called_set.made; have hsub := PySem.F.called_set.sub
  refine wpAny_call (codeAny_of_tree (show wpAny _ _ (callAny (.type "set") _) _ _ _ from wpAny_pure ⟨Code.quiet_builtin _ (by decide +kernel), codeAny_builtin PySem.F.entry_type_call ?_⟩))
  rw [Around.under_plain (weight_type_call_type "set" _ _) rfl]
  have h1 := PySem.F.called_set.notType; have h2 := PySem.F.called_set.canCreate; have htc := PySem.F.typeCall_set_1 (.ref l)
  repeat any_goals (first | assumption | wp_step)
  refine codeAny_mono (code_set_led1 (.ref l) (E := E) (Q₁ := fun obj sA => obj = .ref s.heap.objs.size ∧ sA = { s with heap := s.heap.push (nSet w) }) ⟨rfl, rfl⟩) fun r sA hr => ?_
  cases r with
  | error e => exact hr
  | ok fl =>
    cases fl with
    | ret obj =>
      obtain ⟨rfl, rfl⟩ := hr
      have hS : (s.heap.push (nSet w)).get? s.heap.objs.size = some (nSet w) := Heap.get?_push_size _ rfl
      have hT : Shared.TypeIs { s with heap := s.heap.push (nSet w) } (.ref s.heap.objs.size) "set" := ⟨_, hS, rfl⟩
      have hli := PySem.F.called_set.init.lookup; have hbi := PySem.F.called_set.init.bind (.ref s.heap.objs.size)
      repeat any_goals (first | assumption | wp_step)
      refine codeAny_mono (codeAny_call_builtin (R := wants (fun r sB => r = .none ∧ ∃ hp2 tok c, sB = { s with heap := hp2, toks := tok } ∧ SetR w hp2 s.heap.objs.size (fun j => decide (j ∈ ns)) c ∧ c ≤ ns.length ∧
          (∀ b o, s.heap.get? b = some o → hp2.get? b = some o)) E) PySem.F.called_set.init.plain PySem.F.entry_set_init (check_set_init_1 hT ?_)) fun rB sB hrB => ?_
      · obtain ⟨⟨ocls, odict, odata, oslots⟩, hlo, hcl, nl, hdat⟩ := id hl
        simp only at hcl hdat
        subst hcl; subst hdat
        have hol' : (s.heap.push (nSet w)).get? l = some { cls := .type "list", dict := odict, data := .seq items nl, slots := oslots } := Heap.get?_push_of_some _ hlo
        have hsls := PySem.F.sub_list_set; have hslf := PySem.F.sub_list_frozenset
        have hneq : ((.type "list" : Value) == .type "dict") = false := by decide
        have hl1 : (s.heap.push (nSet w)).IsList l items := ⟨_, hol', rfl, nl, rfl⟩
        unfold Builtin.«set.__init__» Builtin.Frozenset.updateFrom noKeywords
        generalize hPI : pyIter = PI
        wp_walk
        subst hPI
        refine wpAny_pyIter_list hl1 (wpAny_bind (wpAny_runValue ?_))
        have hltS : l < s.heap.objs.size := Heap.lt_size hlo
        have hcalm : A.in1.in1.in1.handled = none := by simp [hh]
        have hz1 : (s.heap.push (nSet w)).objs.size = s.heap.objs.size + 1 := Heap.size_push ..
        have hnI : l ≠ (s.heap.push (nSet w)).objs.size := by rw [hz1]; exact Nat.ne_of_lt (Nat.lt_succ_of_lt hltS)
        have hSf : s.heap.objs.size ∉ [(s.heap.push (nSet w)).objs.size, l] := by rw [hz1]; simp; exact Nat.ne_of_gt hltS
        have hvl : ∀ (i : Nat) (v : Value), items[i]? = some v → ∃ k t, ns[i]? = some k ∧ v = .int k t := fun i v hv => by
          have hi : i < ns.length := hisz ▸ (Array.getElem?_eq_some_iff.mp hv).1
          obtain ⟨t, e⟩ := IntsAre.int_at hit i v (by rw [Array.getElem?_toList]; exact hv)
          exact ⟨ns[i], t, List.getElem?_eq_getElem hi, by rw [e, List.getD_eq_getElem?_getD, List.getElem?_eq_getElem hi] <;> rfl⟩
        refine set_update_ints ((Walks.list hcalm _ l hnI items).toS) s.heap.objs.size hSf ns hisz hb hvl (items.size - 0) 0 _ (by omega) (Nat.zero_le _) ⟨⟨_, Heap.get?_push_size _ rfl, rfl, rfl⟩, (hl1.push _)⟩ ⟨0, Nat.le_refl 0, setR_new_at (Heap.get?_push_of_some _ hS)⟩ ?_
        intro s' cc hm hcb hSb
        obtain ⟨hp2, gg, dd, tok2, oo⟩ := s'
        have eqg : gg = s.gens := hm.gens
        have eqd : dd = s.drawn := hm.drawn
        have eqo : oo = s.os := hm.os
        subst eqg; subst eqd; subst eqo
        rw [hisz] at hcb
        refine (show wpAny _ _ _ _ _ _ from wpAny_pure (show wpAny _ _ (ret Value.none) _ _ _ from wpAny_pure ⟨rfl, hp2, tok2, cc, rfl, hSb, hcb, fun b o e => ?_⟩))
        have hblt : b < s.heap.objs.size := Heap.lt_size e
        exact hm.heap b o (by rw [hz1]; simp; exact ⟨Nat.ne_of_lt hblt, Nat.ne_of_lt (Nat.lt_succ_of_lt hblt)⟩) (up _ b o e)
      · cases rB with
        | error e => exact hrB
        | ok fl₂ =>
          cases fl₂ with
          | ret r =>
            obtain ⟨rfl, hp2, tok, cc, rfl, hSb, hcb, hkb⟩ := hrB
            repeat any_goals (first | assumption | wp_step)
            exact h _ _ _ hSb hcb hkb
          | _ => exact hrB.elim
    | _ => exact hr.elim
end
section
variable {X : Cx}
def rSetL (K : PySem.W.Frag) (w : World) : List V → Hp → VK → Prop := fun vs H Q => ∃ (l : Addr) (ns : List Int), vs = [V.ref l] ∧ SqL K H l (ns.map V.int) ∧ ns.length ≤ 60 ∧ ∀ a c, H a = none → c ≤ ns.length → Q (.ref a) (upd H a (SetO w a (fun j => decide (j ∈ ns)) c))
theorem cr_setL (hc : X.calm = true) : CallR X (.type "set") (rSetL X.K X.w) := by
  intro held s σ H vs us Q Iv r h
  obtain ⟨l, ns, rfl, hs, h60, q⟩ := h
  obtain ⟨els, relV, hl, _⟩ := Iv.list hs
  obtain rfl := Vals.ref1 r
  refine set_listI ns (Iv.ok.hd hc) hl.isList relV.ints (Nat.lt_of_le_of_lt (Nat.succ_le_succ h60) (by decide)) fun hp2 tok c R hc2 hk => ?_
  exact ⟨.ref s.heap.objs.size, _, Iv.laid hk (Nat.le_refl _) (setO_new R), rfl, q _ c (Iv.hok.fresh (Nat.le_refl _)) hc2⟩
/-- min(xs, default=None) of an empty list -/
def rMinD (K : PySem.W.Frag) : List V → List V → Hp → VK → Prop := fun vs zs H Q => ∃ a : Addr, vs = [V.ref a] ∧ zs = [.non] ∧ SqL K H a [] ∧ Q .non H
theorem cr_minD (hc : X.calm = true) (hu : X.A.units + 64 < cLine) : CallRK X (.builtin "min") ["default"] (rMinD X.K) := by
  intro held s σ H vs zs us ws Q Iv r relB h
  obtain ⟨a, rfl, rfl, hs, q⟩ := h
  obtain ⟨els, relV, hl, _⟩ := Iv.list hs
  obtain rfl := Vals.ref1 r
  cases relV
  obtain ⟨d, rfl, rd⟩ := relB.one
  cases (show d = Value.none from rd)
  refine PySem.W.min_list_default (xs := []) (as := []) (Iv.ok.hd hc) hl.isList (by exact .nil) (alike_ints []) (by show X.A.units + 1 + 0 < cLine; omega) (fun _ hp2 tok hk => ⟨.non, H, Iv.kept hk, rfl, q⟩) fun y ys i v hp2 tok bs e => by cases e
end
end U
set_option maxHeartbeats 4100000
namespace U
open L2 PyProof.Rows PySem PySem.Spec
/-! ### the rules that name the written part, with the written part named (for comprehensions) -/
section
variable {X : Cx} {K : PySem.W.Frag} {e a b l : Expr} {ta tb te tl : TE} {pos : Pos}
theorem kfld {f : Str} (he : PE X e ta) (hb : attributeBase e f X.env (eval e X.env) = eval e X.env) (hK : X.K = K) : PE X (.Attribute e f pos) (tFld K ta f) := by
  subst hK; exact pe_fld he hb
theorem kix (ha : PE X a ta) (hb : PE X b tb) (hs : PlainIx b) (hK : X.K = K) : PE X (.Subscript a b pos) (tOp (rIxL K) ta tb) := by
  subst hK; exact pe_ix ix_list ha hb hs
theorem kixT (ha : PE X a ta) (hb : PE X b tb) (hs : PlainIx b) (hK : X.K = K) : PE X (.Subscript a b pos) (tOp (rIxT K) ta tb) := by
  subst hK; exact pe_ix ix_tup ha hb hs
theorem kgtup {es : List Expr} {k : Nat} {t : TGs} {n : Nat} (hc : X.calm = true) (h : PGs X es t) (hK : X.K = K) (hn : (assignEach es X.env).length = n := by rfl) (hst : (assignEach es X.env).findIdx? (·.1) = none := by rfl) : PG X (.Tuple es k pos) (gTup K n t) := by
  subst hK; exact pg_tup hc h hn hst
theorem kNotIn (hK : X.K = K) : OpR X (compareOp .NotIn) (rIn K true) := by subst hK; exact op_notIn_seq
theorem kIn (hK : X.K = K) : OpR X (compareOp .In) (rIn K false) := by subst hK; exact op_in_seq
theorem kEqD (hu : X.A.units + 64 < cLine) (hK : X.K = K) : OpR X (compareOp .Eq) (rEqD K) := by subst hK; exact op_eqD hu
theorem kisi (hK : X.K = K) : CallR X (.builtin "isinstance") (rIsi K) := by subst hK; exact call_isi
theorem kiList {tg : Expr} (hl : PE X l tl) (hK : X.K = K) : PI X tg l (iList K tl) := by subst hK; exact pi_list hl
theorem kiTup {tg : Expr} (hl : PE X l tl) (hK : X.K = K) : PI X tg l (iTup K tl) := by subst hK; exact pi_tup hl
theorem kcatA (hK : X.K = K) : OpR X (binaryOp .Add) (rCatA K) := by subst hK; exact op_catA
end
end U
set_option maxHeartbeats 4100000
namespace U
open PySem L2 He
local macro_rules | `(tactic| walk_at "same") => `(tactic| first | (with_reducible assumption) | exact Same.refl _ | (refine Same.push ?_ (by assumption); walk_at "same") | (refine Same.own ?_ (by assumption); walk_at "same") | (refine Same.trans ?_ (by with_reducible assumption); walk_at "same"))
local macro_rules | `(tactic| walk_at "get") => `(tactic| first | assumption | exact upd_same | (refine get_push (by assumption) ?_; walk_at "get") | (refine get_ne (by assumption) ?_; walk_at "get") | (refine get_ne' (by assumption) ?_; walk_at "get") | (refine Same.get ?_ (by assumption); walk_at "same"))
local macro_rules | `(tactic| walk_at "has") => `(tactic| first | assumption | (refine Has.mono ?_ (by assumption); walk_at "same"))
local macro_rules | `(tactic| walk_at "sql") => `(tactic| first | assumption | exact SqL.of upd_same | exact SqL.of (by assumption) | (refine Same.seq ?_ (by assumption); walk_at "same") | (refine SqL.of ?_; walk_at "get"))
local macro_rules | `(tactic| walk_at "sqt") => `(tactic| first | assumption | exact SqT.of upd_same | exact SqT.of (by assumption) | (refine Same.tup ?_ (by assumption); walk_at "same") | (refine SqT.of ?_; walk_at "get"))
local macro_rules | `(tactic| walk_at "r1") => `(tactic| first | ((with_reducible refine ite_tt ?_ ?_); (focus exact rfl)) | ((with_reducible refine ite_ff ?_ ?_); (focus exact rfl)) | refine ⟨_, rfl, ?_⟩ | refine ⟨_, _, rfl, rfl, ?_⟩ | (refine ⟨rfl, ?_⟩) | refine ⟨(Int.natCast_nonneg _ : (0 : Int) ≤ _), ?_⟩ | refine ⟨_, _, rfl, ?_⟩ | refine ⟨_, _, _, rfl, ?_⟩ | (refine Has.ans (by walk_at "has") ?_) | refine ⟨_, _, _, _, rfl, rfl, (by walk_at "sql"), rfl, ?_⟩ | refine ⟨_, _, rfl, .inl (by walk_at "sql"), ?_⟩ | refine ⟨_, _, rfl, .inr (by walk_at "sqt"), ?_⟩ | refine ⟨_, _, _, _, rfl, rfl, (by walk_at "sqt"), rfl, ?_⟩ | refine ⟨_, _, rfl, (by walk_at "sqt"), rfl, ?_⟩ | refine ⟨_, _, _, _, rfl, (by walk_at "get"), (by assumption), (by assumption), (by walk_at "len"), ?_⟩ | refine ⟨_, _, _, _, _, rfl, (by walk_at "get"), (by assumption), (by assumption), (by walk_at "lk"), ?_⟩)
local macro_rules | `(tactic| walk_at "rd") => `(tactic| repeat walk_at "r1")
local macro_rules | `(tactic| walk_at "lk") => `(tactic| first | (with_reducible exact lk_hit) | (refine lk_miss (by decide +kernel) ?_; walk_at "lk") | rfl)
local macro_rules | `(tactic| walk_at "len") => `(tactic| (refine Nat.lt_of_le_of_lt (m := 60) ?_ (by decide); (repeat (refine len_put ?_)); exact Nat.zero_le _))
local macro_rules | `(tactic| walk_at "len9") => `(tactic| (refine Nat.le_trans (m := 60) ?_ (by decide); (repeat (refine len_put ?_)); exact Nat.zero_le _))
local macro_rules | `(tactic| walk_at "own") => `(tactic| first | assumption | (refine Same.own ?_ (by assumption); walk_at "own"))

section
variable {P : Program} {w : World} {base : Heap}
variable {K : PySem.W.Frag} {mg : Str → Option Value}
def spIsWhole : Sp := fun vs H Q _ => ∃ (i lo hi : Int), vs = [.int i, .int lo, .int hi] ∧ Q (.bl (decide (lo ≤ i) && decide (i ≤ hi))) H
theorem sc_is_whole : FnScope ["thing", "low", "high"] ["thing", "low", "high"] (defScope (top 24)) := ⟨rfl, rfl, rfl, by decide +kernel, rfl, by decide +kernel, by decide +kernel⟩
theorem ok_is_whole (T : Txt K mg) : Ok P w K mg base 1 (ga K "is_whole") ["thing", "low", "high"] (spIsWhole) := by
  obtain ⟨fd, F⟩ := T.d_is_whole
  refine ⟨_, F.ok sc_is_whole (fun vs H Q E h => ?_) (fun cdv A outer s H vs Q E hr h => ?_), F.binds fun _ _ _ _ _ _ us hl => match us, hl with | [_, _, _], _ => rfl, F.kp⟩
  · obtain ⟨i, lo, hi, rfl, _⟩ := h
    rfl
  · obtain ⟨i, lo, hi, rfl, q⟩ := h
    refine ⟨_, (pss_one (ps_ret (pe_and (pe_callB call_isi (by rfl) T.b_isinstance (by decide +kernel) (pa_cons (pv 0) (pa_cons (pe_bltn (v := .ty "int") rfl T.b_int (by decide +kernel) rfl) pa_nil))) (pe_and (pe_not (pe_callB call_isi (by rfl) T.b_isinstance (by decide +kernel) (pa_cons (pv 0) (pa_cons (pe_bltn (v := .ty "bool") rfl T.b_bool (by decide +kernel) rfl) pa_nil)))) (pe_one (pe_chain op_le op_le (pv 1) (pv 0) (pv 2))))))), ?_⟩
    refine ⟨_, rfl, _, _, _, _, true, rfl, .ty _, .base (.int _), kit_ty (by decide +kernel), ?_⟩
    walk_at "rd"
    refine ⟨_, _, _, _, false, rfl, .ty _, .base (.int _), kit_ty (by decide +kernel), ?_⟩
    walk_at "rd"
    by_cases c : lo ≤ i
    · rw [decide_eq_true c] at q ⊢
      walk_at "rd"
      simpa using q
    · rw [decide_eq_false c] at q ⊢
      exact iteF (by simpa using q)
def spIsWeight : Sp := fun vs H Q _ => ∃ (i : Int), vs = [.int i] ∧ Q (.bl (decide (0 ≤ i))) H
theorem sc_is_weight : FnScope ["thing"] ["thing"] (defScope (top 37)) := ⟨rfl, rfl, rfl, by decide +kernel, rfl, by decide +kernel, by decide +kernel⟩
theorem ok_is_weight (T : Txt K mg) : Ok P w K mg base 1 (ga K "is_weight") ["thing"] (spIsWeight) := by
  obtain ⟨fd, F⟩ := T.d_is_weight
  refine ⟨_, F.ok sc_is_weight (fun vs H Q E h => ?_) (fun cdv A outer s H vs Q E hr h => ?_), F.binds fun _ _ _ _ _ _ us hl => match us, hl with | [_], _ => rfl, F.kp⟩
  · obtain ⟨i, rfl, _⟩ := h
    rfl
  · obtain ⟨i, rfl, q⟩ := h
    refine ⟨_, (pss_one (ps_ret (pe_and (pe_callB call_isi (by rfl) T.b_isinstance (by decide +kernel) (pa_cons (pv 0) (pa_cons (pe_bltn (v := .ty "int") rfl T.b_int (by decide +kernel) rfl) pa_nil))) (pe_and (pe_not (pe_callB call_isi (by rfl) T.b_isinstance (by decide +kernel) (pa_cons (pv 0) (pa_cons (pe_bltn (v := .ty "bool") rfl T.b_bool (by decide +kernel) rfl) pa_nil)))) (pe_one (pe_cmpR op_ge (pv 0) pe_int (nomark _))))))), ?_⟩
    refine ⟨_, rfl, _, _, _, _, true, rfl, .ty _, .base (.int _), kit_ty (by decide +kernel), ?_⟩
    walk_at "rd"
    refine ⟨_, _, _, _, false, rfl, .ty _, .base (.int _), kit_ty (by decide +kernel), ?_⟩
    walk_at "rd"
    exact q
theorem bit_dif (a b : Nat) : Builtin.bitAnd (a : Int) (Builtin.bitNot (b : Int)) = ((UM.dif a b : Nat) : Int) := by
  rw [PyProof.Rows.bitAnd_not, PyProof.Rows.bitAnd_pp (by omega) (by omega), Int.toNat_natCast, Int.toNat_natCast]
  have e : UM.dif a b + (a &&& b) = a := by
    have h := Bits.nat_xor_add_and a (a &&& b)
    have h2 : a &&& (a &&& b) = a &&& b := by rw [← Nat.and_assoc, Nat.and_self]
    rw [h2] at h
    unfold UM.dif
    omega
  omega
theorem bit_and (a b : Nat) : Builtin.bitAnd (a : Int) (b : Int) = ((a &&& b : Nat) : Int) := by
  rw [PyProof.Rows.bitAnd_pp (by omega) (by omega), Int.toNat_natCast, Int.toNat_natCast]
theorem bit_or (a b : Nat) : Builtin.bitOr (a : Int) (b : Int) = ((a ||| b : Nat) : Int) := by
  rw [Bits.bitOr_pp (by omega) (by omega), Int.toNat_natCast, Int.toNat_natCast]
theorem bit_xor (a b : Nat) : Builtin.bitXor (a : Int) (b : Int) = ((a ^^^ b : Nat) : Int) := by
  rw [Bits.bitXor_pp (by omega) (by omega), Int.toNat_natCast, Int.toNat_natCast]
theorem bit_one (m d : Nat) : Builtin.bitAnd ((m : Int) / 2 ^ (d : Int).toNat) 1 = ((m / 2 ^ d % 2 : Nat) : Int) := by
  rw [PyProof.Rows.bitAnd_m1, Int.toNat_natCast]
  norm_cast
theorem bit_oneT (m d : Nat) : decide (V.int (Builtin.bitAnd ((m : Int) / 2 ^ (d : Int).toNat) 1) = V.int 1) = m.testBit d := by
  rw [bit_one, Nat.testBit_eq_decide_div_mod_eq]
  refine decide_eq_decide.mpr ⟨fun h => ?_, fun h => by rw [h]; rfl⟩
  injection h with h
  omega
theorem shl_one (d : Nat) : (1 : Int) * 2 ^ (d : Int).toNat = ((2 ^ d : Nat) : Int) := by
  rw [Int.one_mul, Int.toNat_natCast]
  norm_cast
theorem dec_dif (a b : Nat) : decide (V.int ((UM.dif a b : Nat) : Int) = V.int 0) = decide (UM.Sub a b) := by
  refine decide_eq_decide.mpr ⟨fun h => UM.dif_zero.mp ?_, fun h => ?_⟩
  · injection h with h
    omega
  · rw [UM.dif_zero.mpr h]
    rfl
def spWithin : Sp := fun vs H Q _ => ∃ (a b : Nat), vs = [.int a, .int b] ∧ Q (.bl (decide (UM.Sub a b))) H
theorem sc_within : FnScope ["one", "other"] ["one", "other"] (defScope (top 5)) := ⟨rfl, rfl, rfl, by decide +kernel, rfl, by decide +kernel, by decide +kernel⟩
theorem ok_within (T : Txt K mg) : Ok P w K mg base 1 (ga K "within") ["one", "other"] (spWithin) := by
  obtain ⟨fd, F⟩ := T.d_within
  refine ⟨_, F.ok sc_within (fun vs H Q E h => ?_) (fun cdv A outer s H vs Q E hr h => ?_), F.binds fun _ _ _ _ _ _ us hl => match us, hl with | [_, _], _ => rfl, F.kp⟩
  · obtain ⟨a, b, rfl, _⟩ := h
    rfl
  · obtain ⟨a, b, rfl, q⟩ := h
    refine ⟨_, (pss_one (ps_ret (pe_cmpR op_eq (pe_op op_and (pv 0) (pe_un un_inv (pv 1))) pe_int (nomark _)))), ?_⟩
    walk_at "rd"
    simp only [bit_dif, dec_dif]
    exact q
theorem vint_ne {a b : Int} (h : a ≠ b) : decide (V.int a = V.int b) = false := decide_eq_false fun e => h (V.int.inj e)
/-- a new tuple of two numbers -/
def spRatio : Sp := fun vs H Q _ => ∃ (t u : Nat), vs = [.int t, .int u] ∧ 0 < u ∧ u < 2 ^ 8000 ∧ ∀ p, H p = none → Q (.ref p) (upd H p (.tup [.int ((UM.norm t u).1 : Int), .int ((UM.norm t u).2 : Int)]))
theorem sc_ratio : FnScope ["top", "bottom", "divisor"] ["top", "bottom"] (defScope (top 25)) := ⟨rfl, rfl, rfl, by decide +kernel, rfl, by decide +kernel, by decide +kernel⟩
theorem ok_ratio (T : Txt K mg) : Ok P w K mg base 1 (ga K "ratio") ["top", "bottom"] (spRatio) := by
  obtain ⟨fd, F⟩ := T.d_ratio
  refine ⟨_, F.ok sc_ratio (fun vs H Q E h => ?_) (fun cdv A outer s H vs Q E hr h => ?_), F.binds fun _ _ _ _ _ _ us hl => match us, hl with | [_, _], _ => rfl, F.kp⟩
  · obtain ⟨t, u, rfl, _⟩ := h
    rfl
  · obtain ⟨t, u, rfl, hu, hb, q⟩ := h
    refine ⟨_, (pss_cons (ps_if (pt_cmpR op_eq (pv 1) pe_int (nomark _)) (pss_one ps_never) pss_nil)
      (pss_cons (ps_set (i := 2) sc_ratio.nd rfl (Or.inl rfl) (pe_callBfun cr_gcd rfl T.g_gcd (pa_cons (pv 0) (pa_cons (pv 1) pa_nil))))
      (pss_cons (ps_if (pt_cmpR op_lt (pv 1) pe_int (nomark _)) (pss_one (ps_set (i := 2) sc_ratio.nd rfl (Or.inl rfl) (pe_un un_neg (pv 2)))) pss_nil) (pss_one (ps_ret (pe_tup (pa_cons (pe_op op_fdivW (pv 0) (pv 2)) (pa_cons (pe_op op_fdivW (pv 1) (pv 2)) pa_nil)))))))), ?_⟩
    have hg : 0 < Nat.gcd t u := Nat.gcd_pos_of_pos_right _ hu
    have hg2 : Nat.gcd t u < 2 ^ 8000 := Nat.lt_of_le_of_lt (Nat.le_of_dvd hu (Nat.gcd_dvd_right t u)) hb
    walk_at "rd"
    rw [vint_ne (by omega)]
    walk_at "rd"
    refine ⟨wide_div (b := 8000) (by simp only [Int.natAbs_natCast]; omega) (by simp only [Int.natAbs_natCast]; exact hg2) (by decide) (by decide), ?_⟩
    walk_at "rd"
    refine ⟨wide_div (b := 8000) (by simp only [Int.natAbs_natCast]; omega) (by simp only [Int.natAbs_natCast]; exact hg2) (by decide) (by decide), ?_⟩
    refine ⟨by show 2 ≤ sizeLine; decide, (fun p hp => ?_)⟩
    have e1 : ((t : Int) / ((((t : Int).natAbs.gcd (u : Int).natAbs : Nat)) : Int)) = (((UM.norm t u).1 : Nat) : Int) := by simp only [Int.natAbs_natCast, UM.norm]; norm_cast
    have e2 : ((u : Int) / ((((t : Int).natAbs.gcd (u : Int).natAbs : Nat)) : Int)) = (((UM.norm t u).2 : Nat) : Int) := by simp only [Int.natAbs_natCast, UM.norm]; norm_cast
    have q := q p hp
    rw [← e1, ← e2] at q
    exact q
theorem nlt {n k : Nat} (h : n < 2 ^ k) : ((n : Int)).natAbs < 2 ^ k := by rw [Int.natAbs_natCast]; exact h
/-- one ratio against another: above 0 exactly if above -/
def spCompare (K : PySem.W.Frag) : Sp := fun vs H Q _ => ∃ (p q : Addr) (a b x y : Nat), vs = [.ref p, .ref q] ∧ SqT K H p [.int a, .int b] ∧ SqT K H q [.int x, .int y] ∧ (a < 2 ^ 8000 ∧ b < 2 ^ 8000 ∧ x < 2 ^ 8000 ∧ y < 2 ^ 8000) ∧ ∀ r : Int, (0 < r ↔ UM.above (a, b) (x, y) = true) → Q (.int r) H
theorem sc_compare_ratios : FnScope ["one", "other", "difference"] ["one", "other"] (defScope (top 26)) := ⟨rfl, rfl, rfl, by decide +kernel, rfl, by decide +kernel, by decide +kernel⟩
theorem ok_compare_ratios (T : Txt K mg) : Ok P w K mg base 1 (ga K "compare_ratios") ["one", "other"] (spCompare K) := by
  obtain ⟨fd, F⟩ := T.d_compare_ratios
  refine ⟨_, F.ok sc_compare_ratios (fun vs H Q E h => ?_) (fun cdv A outer s H vs Q E hr h => ?_), F.binds fun _ _ _ _ _ _ us hl => match us, hl with | [_, _], _ => rfl, F.kp⟩
  · obtain ⟨p, q, a, b, x, y, rfl, _⟩ := h
    rfl
  · obtain ⟨p, q', a, b, x, y, rfl, hp, hq, ⟨z1, z2, z3, z4⟩, q⟩ := h
    refine ⟨_, (pss_cons (ps_set (i := 2) sc_compare_ratios.nd rfl (Or.inl rfl) (pe_op op_sub (pe_op op_mulW (pe_ix ix_tup (pv 0) pe_int (fun _ _ => rfl)) (pe_ix ix_tup (pv 1) pe_int (fun _ _ => rfl))) (pe_op op_mulW (pe_ix ix_tup (pv 1) pe_int (fun _ _ => rfl)) (pe_ix ix_tup (pv 0) pe_int (fun _ _ => rfl)))))
      (pss_cons (ps_if (pt_cmpR op_lt (pv 2) pe_int (nomark _)) (pss_one (ps_ret (pe_un un_neg pe_int))) pss_nil) (pss_one (ps_ret (pe_ifExp (pt_cmpR op_gt (pv 2) pe_int (nomark _)) pe_int pe_int))))), ?_⟩
    walk_at "rd"
    refine ⟨wide_mul (nlt z1) (nlt z4) (by decide) (by decide) (by decide), ?_⟩
    walk_at "rd"
    refine ⟨wide_mul (nlt z3) (nlt z2) (by decide) (by decide) (by decide), ?_⟩
    walk_at "rd"
    have ab : UM.above (a, b) (x, y) = decide (x * b < a * y) := rfl
    refine ite2 (fun yes => ?_) (fun no => ?_)
    · have c := of_decide_eq_true yes
      walk_at "rd"
      refine q _ ⟨fun h => by omega, fun h => ?_⟩
      rw [ab] at h
      have h := of_decide_eq_true h
      exfalso
      have h2 : (x : Int) * b < a * y := by exact_mod_cast h
      omega
    · have c := of_decide_eq_false (Bool.eq_false_iff.mpr no)
      walk_at "rd"
      refine ite2 (fun d => ?_) (fun d => ?_)
      · have d := of_decide_eq_true d
        refine q _ ⟨fun _ => ?_, fun _ => by decide⟩
        rw [ab]
        refine decide_eq_true ?_
        have h2 : (x : Int) * b < a * y := by omega
        exact_mod_cast h2
      · have d := of_decide_eq_false (Bool.eq_false_iff.mpr d)
        refine q _ ⟨fun h => absurd h (by decide), fun h => ?_⟩
        rw [ab] at h
        have h := of_decide_eq_true h
        exfalso
        have h2 : (x : Int) * b < a * y := by exact_mod_cast h
        omega
def spSum (K : PySem.W.Frag) : Sp := fun vs H Q _ => ∃ (p q : Addr) (a b x y : Nat), vs = [.ref p, .ref q] ∧ SqT K H p [.int a, .int b] ∧ SqT K H q [.int x, .int y] ∧ 0 < b ∧ 0 < y ∧ (a < 2 ^ 5000 ∧ b < 2 ^ 5000 ∧ x < 2 ^ 2000 ∧ y < 2 ^ 2000) ∧
  ∀ r, H r = none → Q (.ref r) (upd H r (.tup [.int ((UM.addF (a, b) (x, y)).1 : Int), .int ((UM.addF (a, b) (x, y)).2 : Int)]))
theorem sc_ratio_sum : FnScope ["one", "other"] ["one", "other"] (defScope (top 27)) := ⟨rfl, rfl, rfl, by decide +kernel, rfl, by decide +kernel, by decide +kernel⟩
theorem ok_ratio_sum (T : Txt K mg) : Ok P w K mg base 2 (ga K "ratio_sum") ["one", "other"] (spSum K) := by
  obtain ⟨fd, F⟩ := T.d_ratio_sum
  obtain ⟨_, G_ratio, b_ratio, k_ratio⟩ := ok_ratio (P := P) (w := w) (base := base) T
  refine ⟨_, F.ok sc_ratio_sum (fun vs H Q E h => ?_) (fun cdv A outer s H vs Q E hr h => ?_), F.binds fun _ _ _ _ _ _ us hl => match us, hl with | [_, _], _ => rfl, F.kp⟩
  · obtain ⟨p, q, a, b, x, y, rfl, _⟩ := h
    rfl
  · obtain ⟨p, q', a, b, x, y, rfl, hp, hq, hb, hy, ⟨z1, z2, z3, z4⟩, q⟩ := h
    refine ⟨_, (pss_one (ps_ret (pe_call G_ratio (hr.mono (by decide)) rfl T.g_ratio k_ratio b_ratio .nil pass0 (pa_cons (pe_op op_add (pe_op op_mulW (pe_ix ix_tup (pv 0) pe_int (fun _ _ => rfl)) (pe_ix ix_tup (pv 1) pe_int (fun _ _ => rfl))) (pe_op op_mulW (pe_ix ix_tup (pv 1) pe_int (fun _ _ => rfl)) (pe_ix ix_tup (pv 0) pe_int (fun _ _ => rfl)))) (pa_cons (pe_op op_mulW (pe_ix ix_tup (pv 0) pe_int (fun _ _ => rfl)) (pe_ix ix_tup (pv 1) pe_int (fun _ _ => rfl))) pa_nil))))), ?_⟩
    walk_at "rd"
    refine ⟨wide_mul (nlt z1) (nlt z4) (by decide) (by decide) (by decide), ?_⟩
    walk_at "rd"
    refine ⟨wide_mul (nlt z3) (nlt z2) (by decide) (by decide) (by decide), ?_⟩
    walk_at "rd"
    refine ⟨wide_mul (nlt z2) (nlt z4) (by decide) (by decide) (by decide), ?_⟩
    refine ⟨a * y + x * b, b * y, by norm_cast, Nat.mul_pos hb hy, ?_, fun r hr => ?_⟩
    · exact Nat.lt_of_lt_of_le (Nat.mul_lt_mul'' z2 z4) (by rw [← Nat.pow_add]; exact Nat.pow_le_pow_right (by decide) (by decide))
    · have q := q r hr
      unfold UM.addF at q
      rw [show x * b + a * y = a * y + x * b from Nat.add_comm _ _, show y * b = b * y from Nat.mul_comm _ _] at q
      exact q
def spSetOf (K : PySem.W.Frag) : Sp := fun vs H Q _ => ∃ (a : Addr) (ds : List Nat), vs = [.ref a] ∧ SqL K H a (ds.map fun (d : Nat) => V.int (d : Int)) ∧ (∀ d ∈ ds, d < 64) ∧ Q (.int ((ds.foldl (fun m d => m ||| 2 ^ d) 0 : Nat) : Int)) H
theorem sc_set_of : FnScope ["days", "total", "day"] ["days"] (defScope (top 4)) := ⟨rfl, rfl, rfl, by decide +kernel, rfl, by decide +kernel, by decide +kernel⟩
theorem ok_set_of (T : Txt K mg) : Ok P w K mg base 1 (ga K "set_of") ["days"] (spSetOf K) := by
  obtain ⟨fd, F⟩ := T.d_set_of
  refine ⟨_, F.ok sc_set_of (fun vs H Q E h => ?_) (fun cdv A outer s H vs Q E hr h => ?_), F.binds fun _ _ _ _ _ _ us hl => match us, hl with | [_], _ => rfl, F.kp⟩
  · obtain ⟨a, ds, rfl, _⟩ := h
    rfl
  · obtain ⟨a, ds, rfl, hs, h64, q⟩ := h
    refine ⟨_, (pss_cons (ps_set (i := 1) sc_set_of.nd rfl (Or.inl rfl) pe_int)
      (pss_cons (ps_for PassesOwn.never rfl (pi_list (pv 0)) (pg_name (i := 2) sc_set_of.nd rfl (Or.inl rfl)) (pss_one (ps_set (i := 1) sc_set_of.nd rfl (Or.inl rfl) (pe_op op_or (pv 1) (pe_op op_shl pe_int (pv 2)))))) (pss_one (ps_ret (pv 1))))), ?_⟩
    walk_at "rd"
    refine ⟨⟨_, hs⟩, for_list (K := K) (a := a) (xs := ds.map fun (d : Nat) => V.int (d : Int)) (fun i σ H' => ∃ v : Option V, H' = H ∧ σ = [some (.ref a), some (.int (((ds.take i).foldl (fun m d => m ||| 2 ^ d) 0 : Nat) : Int)), v]) ⟨none, rfl, rfl⟩ (fun i σ H' _ h => by obtain ⟨v, rfl, rfl⟩ := h; exact hs) ?_ ?_⟩
    · rintro i x σ H' hi ⟨v, rfl, rfl⟩
      rw [List.getElem?_map] at hi
      obtain ⟨d, hd, rfl⟩ := Option.map_eq_some_iff.mp hi
      have h6 := h64 d (List.mem_of_getElem? hd)
      walk_at "rd"
      refine ⟨⟨by omega, by omega, by decide⟩, ?_⟩
      walk_at "rd"
      simp only [shl_one, bit_or]
      refine ⟨some (.int (d : Int)), rfl, ?_⟩
      have et : ds.take (i + 1) = ds.take i ++ [d] := by rw [List.take_add_one, hd]; rfl
      rw [et, List.foldl_append]
      rfl
    · rintro σ H' ⟨v, rfl, rfl⟩
      rw [List.length_map, List.take_length ]
      walk_at "rd"
      exact q
end
end U
set_option maxHeartbeats 4100000
namespace U
open PySem L2 He
local macro_rules | `(tactic| walk_at "same") => `(tactic| first | (with_reducible assumption) | exact Same.refl _ | (refine Same.push ?_ (by assumption); walk_at "same") | (refine Same.own ?_ (by assumption); walk_at "same") | (refine Same.trans ?_ (by with_reducible assumption); walk_at "same"))
local macro_rules | `(tactic| walk_at "get") => `(tactic| first | assumption | exact upd_same | (refine get_push (by assumption) ?_; walk_at "get") | (refine get_ne (by assumption) ?_; walk_at "get") | (refine get_ne' (by assumption) ?_; walk_at "get") | (refine Same.get ?_ (by assumption); walk_at "same"))
local macro_rules | `(tactic| walk_at "has") => `(tactic| first | assumption | (refine Has.mono ?_ (by assumption); walk_at "same"))
local macro_rules | `(tactic| walk_at "sql") => `(tactic| first | assumption | exact SqL.of upd_same | exact SqL.of (by assumption) | (refine Same.seq ?_ (by assumption); walk_at "same") | (refine SqL.of ?_; walk_at "get"))
local macro_rules | `(tactic| walk_at "sqt") => `(tactic| first | assumption | exact SqT.of upd_same | exact SqT.of (by assumption) | (refine Same.tup ?_ (by assumption); walk_at "same") | (refine SqT.of ?_; walk_at "get"))
local macro_rules | `(tactic| walk_at "r1") => `(tactic| first | ((with_reducible refine ite_tt ?_ ?_); (focus exact rfl)) | ((with_reducible refine ite_ff ?_ ?_); (focus exact rfl)) | refine ⟨_, rfl, ?_⟩ | refine ⟨_, _, rfl, rfl, ?_⟩ | (refine ⟨rfl, ?_⟩) | refine ⟨(Int.natCast_nonneg _ : (0 : Int) ≤ _), ?_⟩ | refine ⟨_, _, rfl, ?_⟩ | refine ⟨_, _, _, rfl, ?_⟩ | (refine Has.ans (by walk_at "has") ?_) | refine ⟨_, _, _, _, rfl, rfl, (by walk_at "sql"), rfl, ?_⟩ | refine ⟨_, _, rfl, .inl (by walk_at "sql"), ?_⟩ | refine ⟨_, _, rfl, .inr (by walk_at "sqt"), ?_⟩ | refine ⟨_, _, _, _, rfl, rfl, (by walk_at "sqt"), rfl, ?_⟩ | refine ⟨_, _, rfl, (by walk_at "sqt"), rfl, ?_⟩ | refine ⟨_, _, _, _, rfl, (by walk_at "get"), (by assumption), (by assumption), (by walk_at "len"), ?_⟩ | refine ⟨_, _, _, _, _, rfl, (by walk_at "get"), (by assumption), (by assumption), (by walk_at "lk"), ?_⟩)
local macro_rules | `(tactic| walk_at "rd") => `(tactic| repeat walk_at "r1")
local macro_rules | `(tactic| walk_at "lk") => `(tactic| first | (with_reducible exact lk_hit) | (refine lk_miss (by decide +kernel) ?_; walk_at "lk") | rfl)
local macro_rules | `(tactic| walk_at "len") => `(tactic| (refine Nat.lt_of_le_of_lt (m := 60) ?_ (by decide); (repeat (refine len_put ?_)); exact Nat.zero_le _))
local macro_rules | `(tactic| walk_at "len9") => `(tactic| (refine Nat.le_trans (m := 60) ?_ (by decide); (repeat (refine len_put ?_)); exact Nat.zero_le _))
local macro_rules | `(tactic| walk_at "own") => `(tactic| first | assumption | (refine Same.own ?_ (by assumption); walk_at "own"))

/-- what a saying's days must be -/
structure SayP (n c b t : Nat) : Prop where
  c1 : c < 2 ^ n
  b1 : b < 2 ^ n
  t1 : t < 2 ^ n
  n16 : n ≤ 16
  d : c &&& b = 0
  ct : (c ||| b) &&& t = c
  bt : UM.dif (c ||| b) t = b
  ne : c ||| b ≠ 0
theorem SayP.w1 {n c b t : Nat} (h : SayP n c b t) : c ||| b < 2 ^ n := Nat.or_lt_two_pow h.c1 h.b1
theorem le_bits {n m : Nat} (h : m < 2 ^ n) (h16 : n ≤ 16) : m ≤ 65535 := by
  have := Nat.pow_le_pow_right (n := 2) (by decide) h16
  omega
theorem and_dis {c b : Nat} (h : c &&& b = 0) : UM.Dis (c, b) := fun i h1 h2 => by
  have e : (c &&& b).testBit i = true := by rw [Nat.testBit_and, h1, h2]; rfl
  rw [h, Nat.zero_testBit] at e
  cases e
theorem SayP.flip {n c b t : Nat} (h : SayP n c b t) : SayP n b c b := by
  have d := and_dis h.d
  refine ⟨h.b1, h.c1, h.b1, h.n16, by rw [Nat.and_comm]; exact h.d, ?_, ?_, by rw [Nat.or_comm]; exact h.ne⟩
  · apply Nat.eq_of_testBit_eq; intro i
    rw [Nat.testBit_and, Nat.testBit_or]
    cases b.testBit i <;> cases c.testBit i <;> rfl
  · apply Nat.eq_of_testBit_eq; intro i
    have di := d i
    rw [UM.tb_dif, Nat.testBit_or]
    revert di
    cases b.testBit i <;> cases c.testBit i <;> simp
section
variable {P : Program} {w : World} {base : Heap}
variable {K : PySem.W.Frag} {mg : Str → Option Value}
theorem whole16 {m : Nat} (h : m ≤ 65535) : (decide ((0 : Int) ≤ (m : Int)) && decide ((m : Int) ≤ 65535)) = true := by simp; omega
def spVerdInit (K : PySem.W.Frag) : Sp := fun vs H Q _ => ∃ (H0 : Hp) (p dx : Addr) (c b : Nat), vs = [.ref p, .int c, .int b] ∧ H p = some (.ins (ga K "Verdicts") dx []) ∧ Same H0 H ∧ H0 p = none ∧ c ≤ 65535 ∧ b ≤ 65535 ∧ c &&& b = 0 ∧ ∀ H', Same H0 H' → VerdAt K H' p c b → Q .non H'
theorem sc_Verdicts_init : FnScope ["self", "confirm", "broken"] ["self", "confirm", "broken"] (defScope (inClass (top 66) 0)) := ⟨rfl, rfl, rfl, by decide +kernel, rfl, by decide +kernel, by decide +kernel⟩
theorem ok_Verdicts_init (T : Txt K mg) : Ok P w K mg base 2 (ma K (ga K "Verdicts") "__init__") ["self", "confirm", "broken"] (spVerdInit K) := by
  obtain ⟨fd, F⟩ := T.f_Verdicts_init
  obtain ⟨_, G_is_whole, b_is_whole, k_is_whole⟩ := ok_is_whole (P := P) (w := w) (base := base) T
  obtain ⟨_, gc_ALL_BITS⟩ := T.c_ALL_BITS
  refine ⟨_, F.ok sc_Verdicts_init (fun vs H Q E h => ?_) (fun cdv A outer s H vs Q E hr h => ?_), F.binds fun _ _ _ _ _ _ us hl => match us, hl with | [_, _, _], _ => rfl, F.kp⟩
  · obtain ⟨H0, p, dx, c, b, rfl, _⟩ := h
    rfl
  · obtain ⟨H0, p, dx, c, b, rfl, hp, s0, p0, hc, hb, hd, q⟩ := h
    refine ⟨_, (pss_cons (ps_if (PW.pt (pw_or (pt_not (pt_val (pe_call G_is_whole (hr.mono (by decide)) rfl T.g_is_whole k_is_whole b_is_whole .nil pass0 (pa_cons (pv 1) (pa_cons pe_int (pa_cons (pe_glob (v := .int 65535) rfl gc_ALL_BITS ⟨_, rfl⟩) pa_nil)))))) (pw_or (pt_not (pt_val (pe_call G_is_whole (hr.mono (by decide)) rfl T.g_is_whole k_is_whole b_is_whole .nil pass0 (pa_cons (pv 2) (pa_cons pe_int (pa_cons (pe_glob (v := .int 65535) rfl gc_ALL_BITS ⟨_, rfl⟩) pa_nil)))))) (pw_or1 (pt_truth (pe_op op_and (pv 1) (pv 2)) (by intro _; rfl)))))) (pss_one ps_never) pss_nil)
      (pss_cons (ps_fld (pv 0) (pv 1) rfl) (pss_one (ps_fld (pv 0) (pv 2) rfl)))), ?_⟩
    walk_at "rd"
    rw [whole16 hc]
    walk_at "rd"
    rw [whole16 hb]
    walk_at "rd"
    simp only [bit_and, hd]
    walk_at "rd"
    refine ⟨_, _, _, _, rfl, hp, T.c_Verdicts, T.n_Verdicts_confirm, (by walk_at "len"), ?_⟩
    walk_at "rd"
    refine ⟨_, _, _, _, rfl, upd_same, T.c_Verdicts, T.n_Verdicts_broken, (by walk_at "len"), ?_⟩
    refine q _ (Same.own (Same.own s0 p0) p0) ⟨dx, _, upd_same, (by walk_at "lk"), (by walk_at "lk"), (by walk_at "len9")⟩
def spVerdNone (K : PySem.W.Frag) : Sp := fun vs H Q _ => ∃ (C : Addr), vs = [.ref C] ∧ ∀ H' r, Same H H' → VerdAt K H' r 0 0 → Q (.ref r) H'
theorem sc_Verdicts_none : FnScope ["cls"] ["cls"] (defScope (inClass (top 66) 1)) := ⟨rfl, rfl, rfl, by decide +kernel, rfl, by decide +kernel, by decide +kernel⟩
theorem ok_Verdicts_none (T : Txt K mg) : Ok P w K mg base 4 (He5.wf K (ga K "Verdicts") "classmethod" "none") ["cls"] (spVerdNone K) := by
  obtain ⟨fd, F⟩ := T.f_Verdicts_none
  obtain ⟨_, G_Verdicts_init, b_Verdicts_init, k_Verdicts_init⟩ := ok_Verdicts_init (P := P) (w := w) (base := base) T
  refine ⟨_, F.ok sc_Verdicts_none (fun vs H Q E h => ?_) (fun cdv A outer s H vs Q E hr h => ?_), F.binds fun _ _ _ _ _ _ us hl => match us, hl with | [_], _ => rfl, F.kp⟩
  · obtain ⟨C, rfl, _⟩ := h
    rfl
  · obtain ⟨C, rfl, q⟩ := h
    refine ⟨_, (pss_one (ps_ret (pe_make T.mk_Verdicts G_Verdicts_init (hr.mono (by decide)) rfl T.g_Verdicts b_Verdicts_init .nil pass0 (pa_cons pe_int (pa_cons pe_int pa_nil))))), ?_⟩
    walk_at "rd"
    intro x dx nx ndx nex
    refine ⟨H, x, dx, 0, 0, rfl, upd_same, Same.mk nx ndx, nx, by decide, by decide, rfl, fun H' e a => ⟨rfl, q H' x e a⟩⟩
def spVerdAdd (K : PySem.W.Frag) : Sp := fun vs H Q _ => ∃ (p p' : Addr) (c b c' b' : Nat), vs = [.ref p, .ref p'] ∧ VerdAt K H p c b ∧ VerdAt K H p' c' b' ∧ (c < 2 ^ 16 ∧ b < 2 ^ 16 ∧ c' < 2 ^ 16 ∧ b' < 2 ^ 16) ∧ ∀ H' r, Same H H' → VerdAt K H' r (UM.dif (c ||| c') (b ||| b')) (b ||| b') → Q (.ref r) H'
theorem sc_Verdicts_add : FnScope ["self", "other", "broken"] ["self", "other"] (defScope (inClass (top 66) 3)) := ⟨rfl, rfl, rfl, by decide +kernel, rfl, by decide +kernel, by decide +kernel⟩
theorem ok_Verdicts_add (T : Txt K mg) : Ok P w K mg base 4 (ma K (ga K "Verdicts") "__add__") ["self", "other"] (spVerdAdd K) := by
  obtain ⟨fd, F⟩ := T.f_Verdicts_add
  obtain ⟨_, G_Verdicts_init, b_Verdicts_init, k_Verdicts_init⟩ := ok_Verdicts_init (P := P) (w := w) (base := base) T
  refine ⟨_, F.ok sc_Verdicts_add (fun vs H Q E h => ?_) (fun cdv A outer s H vs Q E hr h => ?_), F.binds fun _ _ _ _ _ _ us hl => match us, hl with | [_, _], _ => rfl, F.kp⟩
  · obtain ⟨p, p', c, b, c', b', rfl, _⟩ := h
    rfl
  · obtain ⟨p, p', c, b, c', b', rfl, v1, v2, ⟨z1, z2, z3, z4⟩, q⟩ := h
    refine ⟨_, (pss_cons (ps_set (i := 2) sc_Verdicts_add.nd rfl (Or.inl rfl) (pe_op op_or (pe_fld (pv 0) rfl) (pe_fld (pv 1) rfl))) (pss_one (ps_ret (pe_make T.mk_Verdicts G_Verdicts_init (hr.mono (by decide)) rfl T.g_Verdicts b_Verdicts_init .nil pass0 (pa_cons (pe_op op_and (pe_op op_or (pe_fld (pv 0) rfl) (pe_fld (pv 1) rfl)) (pe_un un_inv (pv 2))) (pa_cons (pv 2) pa_nil)))))), ?_⟩
    have f1 := v1.f_broken T; have f2 := v2.f_broken T; have f3 := v1.f_confirm T; have f4 := v2.f_confirm T
    walk_at "rd"
    intro x dx nx ndx nex
    simp only [bit_or, bit_dif]
    have l1 : b ||| b' < 2 ^ 16 := Nat.or_lt_two_pow z2 z4
    have l2 : UM.dif (c ||| c') (b ||| b') < 2 ^ 16 := UM.dif_lt (Nat.or_lt_two_pow z1 z3)
    refine ⟨H, x, dx, UM.dif (c ||| c') (b ||| b'), b ||| b', rfl, upd_same, Same.mk nx ndx, nx, by omega, by omega, ?_, fun H' e a => ⟨rfl, q H' x e a⟩⟩
    apply Nat.eq_of_testBit_eq; intro i
    rw [Nat.testBit_and, UM.tb_dif, Nat.zero_testBit]
    cases (b ||| b').testBit i <;> simp
def spVerdOf (K : PySem.W.Frag) : Sp := fun vs H Q _ => ∃ (p : Addr) (n c b t : Nat) (u : Bool), vs = [.ref p] ∧ SayAt K H p c b t u ∧ SayP n c b t ∧ ∀ H' r, Same H H' → VerdAt K H' r c b → Q (.ref r) H'
theorem sc_verdicts_of : FnScope ["saying"] ["saying"] (defScope (top 67)) := ⟨rfl, rfl, rfl, by decide +kernel, rfl, by decide +kernel, by decide +kernel⟩
theorem ok_verdicts_of (T : Txt K mg) : Ok P w K mg base 4 (ga K "verdicts_of") ["saying"] (spVerdOf K) := by
  obtain ⟨fd, F⟩ := T.d_verdicts_of
  obtain ⟨_, G_Verdicts_init, b_Verdicts_init, k_Verdicts_init⟩ := ok_Verdicts_init (P := P) (w := w) (base := base) T
  refine ⟨_, F.ok sc_verdicts_of (fun vs H Q E h => ?_) (fun cdv A outer s H vs Q E hr h => ?_), F.binds fun _ _ _ _ _ _ us hl => match us, hl with | [_], _ => rfl, F.kp⟩
  · obtain ⟨p, n, c, b, t, u, rfl, _⟩ := h
    rfl
  · obtain ⟨p, n, c, b, t, u, rfl, v1, z, q⟩ := h
    refine ⟨_, (pss_one (ps_ret (pe_make T.mk_Verdicts G_Verdicts_init (hr.mono (by decide)) rfl T.g_Verdicts b_Verdicts_init .nil pass0 (pa_cons (pe_fld (pv 0) rfl) (pa_cons (pe_fld (pv 0) rfl) pa_nil))))), ?_⟩
    have f1 := v1.f_broken T; have f3 := v1.f_confirm T
    walk_at "rd"
    intro x dx nx ndx nex
    refine ⟨H, x, dx, c, b, rfl, upd_same, Same.mk nx ndx, nx, le_bits z.c1 z.n16, le_bits z.b1 z.n16, z.d, fun H' e a => ⟨rfl, q H' x e a⟩⟩
/-- usual sayings at these places -/
def SaysOf (K : PySem.W.Frag) (H : Hp) (n : Nat) (xs : List V) (ps : List UM.P) : Prop := xs.length = ps.length ∧ ∀ (i : Nat) v, xs[i]? = some v → ∃ p a t, ps[i]? = some p ∧ v = .ref a ∧ SayAt K H a p.1 p.2 t true ∧ SayP n p.1 p.2 t
theorem SaysOf.mono {H H' : Hp} {n : Nat} {xs : List V} {ps : List UM.P} (e : Same H H') (h : SaysOf K H n xs ps) : SaysOf K H' n xs ps :=
  ⟨h.1, fun i v hv => let ⟨p, a, t, h1, h2, h3, h4⟩ := h.2 i v hv; ⟨p, a, t, h1, h2, h3.mono e, h4⟩⟩
theorem SaysOf.bound {H : Hp} {n : Nat} {xs : List V} {ps : List UM.P} (h : SaysOf K H n xs ps) : ∀ p ∈ ps, ∃ t, SayP n p.1 p.2 t := fun p hp => by
  obtain ⟨i, hi⟩ := List.getElem?_of_mem hp
  have hl : i < xs.length := by rw [h.1]; exact (List.getElem?_eq_some_iff.mp hi).1
  obtain ⟨p', a, t, h1, h2, h3, h4⟩ := h.2 i _ (List.getElem?_eq_getElem hl)
  rw [hi] at h1
  cases h1
  exact ⟨t, h4⟩
theorem or_bounds {n : Nat} : ∀ L : List UM.P, (∀ p ∈ L, p.1 < 2 ^ n ∧ p.2 < 2 ^ n) → UM.orC L < 2 ^ n ∧ UM.orB L < 2 ^ n
  | [], _ => ⟨Nat.two_pow_pos n, Nat.two_pow_pos n⟩
  | p :: r, h => by
    obtain ⟨h1, h2⟩ := or_bounds r fun q hq => h q (List.mem_cons_of_mem _ hq)
    obtain ⟨h3, h4⟩ := h p List.mem_cons_self
    exact ⟨Nat.or_lt_two_pow h3 h1, Nat.or_lt_two_pow h4 h2⟩
theorem join_bounds {n : Nat} {L : List UM.P} (h : ∀ p ∈ L, p.1 < 2 ^ n ∧ p.2 < 2 ^ n) (h16 : n ≤ 16) : (UM.joinP L).1 < 2 ^ 16 ∧ (UM.joinP L).2 < 2 ^ 16 := by
  obtain ⟨h1, h2⟩ := or_bounds L h
  have e := Nat.pow_le_pow_right (n := 2) (by decide) h16
  exact ⟨Nat.lt_of_lt_of_le (UM.dif_lt h1) e, Nat.lt_of_lt_of_le h2 e⟩
def spJoined (K : PySem.W.Frag) : Sp := fun vs H Q _ => ∃ (l : Addr) (n : Nat) (xs : List V) (ps : List UM.P), vs = [.ref l] ∧ SqL K H l xs ∧ SaysOf K H n xs ps ∧ n ≤ 16 ∧ ∀ H' r, Same H H' → VerdAt K H' r (UM.joinP ps).1 (UM.joinP ps).2 → Q (.ref r) H'
theorem sc_joined : FnScope ["sayings", "total", "saying"] ["sayings"] (defScope (top 68)) := ⟨rfl, rfl, rfl, by decide +kernel, rfl, by decide +kernel, by decide +kernel⟩
theorem ok_joined (T : Txt K mg) : Ok P w K mg base 6 (ga K "joined") ["sayings"] (spJoined K) := by
  obtain ⟨fd, F⟩ := T.d_joined
  obtain ⟨_, G_Verdicts_none, b_Verdicts_none, k_Verdicts_none⟩ := ok_Verdicts_none (P := P) (w := w) (base := base) T
  obtain ⟨_, G_Verdicts_add, b_Verdicts_add, k_Verdicts_add⟩ := ok_Verdicts_add (P := P) (w := w) (base := base) T
  obtain ⟨_, G_verdicts_of, b_verdicts_of, k_verdicts_of⟩ := ok_verdicts_of (P := P) (w := w) (base := base) T
  refine ⟨_, F.ok sc_joined (fun vs H Q E h => ?_) (fun cdv A outer s H vs Q E hr h => ?_), F.binds fun _ _ _ _ _ _ us hl => match us, hl with | [_], _ => rfl, F.kp⟩
  · obtain ⟨l, n, xs, ps, rfl, _⟩ := h
    rfl
  · obtain ⟨l, n, xs, ps, rfl, hl, hs, h16, q⟩ := h
    refine ⟨_, (pss_cons (ps_set (i := 1) sc_joined.nd rfl (Or.inl rfl) (pe_cmeth0 (pe_glob (v := .ref (ga K "Verdicts")) rfl T.g_Verdicts rfl) T.r_Verdicts T.m_Verdicts_none (raw0 G_Verdicts_none b_Verdicts_none) (hr.mono (by decide)) pass0))
      (pss_cons (ps_for PassesOwn.never rfl (pi_list (pv 0)) (pg_name (i := 2) sc_joined.nd rfl (Or.inl rfl)) (pss_one (ps_set (i := 1) sc_joined.nd rfl (Or.inl rfl) (pe_op (op_addOwn T.m_Verdicts_add T.x_Verdicts_first (raw0 G_Verdicts_add b_Verdicts_add) (hr.mono (by decide)) pass0) (pv 1) (pe_call G_verdicts_of (hr.mono (by decide)) rfl T.g_verdicts_of k_verdicts_of b_verdicts_of .nil pass0 (pa_cons (pv 2) pa_nil)))))) (pss_one (ps_ret (pv 1))))), ?_⟩
    walk_at "rd"
    intro H1 r1 e1 a1
    walk_at "rd"
    have bd : ∀ p ∈ ps, p.1 < 2 ^ n ∧ p.2 < 2 ^ n := fun p hp => by
      obtain ⟨t, h⟩ := hs.bound p hp
      exact ⟨h.c1, h.b1⟩
    refine ⟨⟨_, e1.seq hl⟩, for_list (K := K) (a := l) (xs := xs) (fun i σ H' => ∃ (v : Option V) (r : Addr), Same H H' ∧ σ = [some (.ref l), some (.ref r), v] ∧ VerdAt K H' r (UM.joinP (ps.take i)).1 (UM.joinP (ps.take i)).2) ⟨none, r1, e1, rfl, by rw [List.take_zero, UM.joinP_nil]; exact a1⟩ (fun i σ H' _ h => by obtain ⟨v, r, e, _⟩ := h; exact e.seq hl) ?_ ?_⟩
    · rintro i x σ H2 hi ⟨v, r, e2, rfl, a2⟩
      obtain ⟨p, a, t, hp, rfl, h3, h4⟩ := hs.2 i x hi
      walk_at "rd"
      refine ⟨a, n, p.1, p.2, t, true, rfl, h3.mono e2, h4, fun H3 r3 e3 a3 => ?_⟩
      have a4 := a2.mono e3
      obtain ⟨dx1, fs1, o1⟩ := a4.ins
      obtain ⟨dx2, fs2, o2⟩ := a3.ins
      obtain ⟨b1, b2⟩ := join_bounds (n := n) (L := ps.take i) (fun p hp => bd p (List.mem_of_mem_take hp)) h16
      have en := Nat.pow_le_pow_right (n := 2) (by decide) h16
      refine ⟨r, dx1, fs1, r3, dx2, fs2, rfl, rfl, o1, o2, r, r3, _, _, _, _, rfl, a4, a3, ⟨b1, b2, Nat.lt_of_lt_of_le h4.c1 en, Nat.lt_of_lt_of_le h4.b1 en⟩, fun H4 r4 e4 a5 => ?_⟩
      refine ⟨some (.ref a), r4, (e2.trans e3).trans e4, rfl, ?_⟩
      have et : ps.take (i + 1) = ps.take i ++ [p] := by rw [List.take_add_one, hp]; rfl
      rw [et, UM.joinP_snoc]
      exact a5
    · rintro σ H2 ⟨v, r, e2, rfl, a2⟩
      rw [hs.1, List.take_length] at a2
      walk_at "rd"
      exact q H2 r e2 a2
def spSharper (K : PySem.W.Frag) : Sp := fun vs H Q _ => ∃ (p p' : Addr) (c b c' b' : Nat), vs = [.ref p, .ref p'] ∧ VerdAt K H p c b ∧ VerdAt K H p' c' b' ∧ Q (.bl (UM.sharp (c, b) (c', b'))) H
theorem sc_sharper : FnScope ["one", "other"] ["one", "other"] (defScope (top 69)) := ⟨rfl, rfl, rfl, by decide +kernel, rfl, by decide +kernel, by decide +kernel⟩
theorem ok_sharper (T : Txt K mg) : Ok P w K mg base 1 (ga K "sharper") ["one", "other"] (spSharper K) := by
  obtain ⟨fd, F⟩ := T.d_sharper
  refine ⟨_, F.ok sc_sharper (fun vs H Q E h => ?_) (fun cdv A outer s H vs Q E hr h => ?_), F.binds fun _ _ _ _ _ _ us hl => match us, hl with | [_, _], _ => rfl, F.kp⟩
  · obtain ⟨p, p', c, b, c', b', rfl, _⟩ := h
    rfl
  · obtain ⟨p, p', c, b, c', b', rfl, v1, v2, q⟩ := h
    refine ⟨_, (pss_one (ps_ret (pe_and (pe_cmpR op_eq (pe_op op_and (pe_fld (pv 0) rfl) (pe_un un_inv (pe_fld (pv 1) rfl))) pe_int (nomark _)) (pe_one (pe_cmpR op_eq (pe_op op_and (pe_fld (pv 1) rfl) (pe_un un_inv (pe_fld (pv 0) rfl))) pe_int (nomark _)))))), ?_⟩
    have f1 := v1.f_broken T; have f2 := v2.f_broken T; have f3 := v1.f_confirm T; have f4 := v2.f_confirm T
    walk_at "rd"
    simp only [bit_dif, dec_dif]
    have es : UM.sharp (c, b) (c', b') = (decide (UM.Sub c c') && decide (UM.Sub b' b)) := by
      rw [Bool.eq_iff_iff, UM.sharp_iff]
      simp
    by_cases h : UM.Sub c c'
    · rw [decide_eq_true h]
      walk_at "rd"
      simp only [bit_dif, dec_dif]
      rw [es, decide_eq_true h, Bool.true_and] at q
      exact q
    · rw [decide_eq_false h]
      rw [es, decide_eq_false h, Bool.false_and] at q
      exact iteF q
/-! ### sayings -/
def spSayInit (K : PySem.W.Frag) : Sp := fun vs H Q _ => ∃ (H0 : Hp) (p dx : Addr) (n c b t : Nat) (u : Bool), vs = [.ref p, .int ((c ||| b : Nat) : Int), .int t, .bl u] ∧ H p = some (.ins (ga K "Saying") dx []) ∧ Same H0 H ∧ H0 p = none ∧ SayP n c b t ∧ ∀ H', Same H0 H' → SayAt K H' p c b t u → Q .non H'
theorem sc_Saying_init : FnScope ["self", "where", "then", "usual"] ["self", "where", "then", "usual"] (defScope (inClass (top 64) 0)) := ⟨rfl, rfl, rfl, by decide +kernel, rfl, by decide +kernel, by decide +kernel⟩
theorem ok_Saying_init (T : Txt K mg) : Ok P w K mg base 2 (ma K (ga K "Saying") "__init__") ["self", "where", "then", "usual"] (spSayInit K) := by
  obtain ⟨fd, F⟩ := T.f_Saying_init
  obtain ⟨_, G_is_whole, b_is_whole, k_is_whole⟩ := ok_is_whole (P := P) (w := w) (base := base) T
  obtain ⟨_, gc_ALL_BITS⟩ := T.c_ALL_BITS
  obtain ⟨ds, rd, hb⟩ := F.binds1 (ps := ["self", "where", "then", "usual"]) 4 1 (by decide) rfl fun T kV doc pm an cdv ct us its h1 h2 => match us, h1, its, h2 with | [_, _, _, _], _, [_], _ => ⟨_, rfl, rfl⟩
  cases rd
  refine ⟨_, F.ok sc_Saying_init (fun vs H Q E h => ?_) (fun cdv A outer s H vs Q E hr h => ?_), hb, F.kp⟩
  · obtain ⟨H0, p, dx, n, c, b, t, u, rfl, _⟩ := h
    rfl
  · obtain ⟨H0, p, dx, n, c, b, t, u, rfl, hp, s0, p0, z, q⟩ := h
    refine ⟨_, PSs.nox (pss_cons (ps_if (pt_not (pt_val (pe_call G_is_whole (hr.mono (by decide)) rfl T.g_is_whole k_is_whole b_is_whole .nil pass0 (pa_cons (pv 1) (pa_cons pe_int (pa_cons (pe_glob (v := .int 65535) rfl gc_ALL_BITS ⟨_, rfl⟩) pa_nil)))))) (pss_one ps_never) pss_nil)
      (pss_cons (ps_if (pt_not (pt_val (pe_call G_is_whole (hr.mono (by decide)) rfl T.g_is_whole k_is_whole b_is_whole .nil pass0 (pa_cons (pv 2) (pa_cons pe_int (pa_cons (pe_glob (v := .int 65535) rfl gc_ALL_BITS ⟨_, rfl⟩) pa_nil)))))) (pss_one ps_never) pss_nil)
      (pss_cons (ps_if (pt_not (pt_val (pe_callB call_isi (by rfl) T.b_isinstance (by decide +kernel) (pa_cons (pv 3) (pa_cons (pe_bltn (v := .ty "bool") rfl T.b_bool (by decide +kernel) rfl) pa_nil))))) (pss_one ps_never) pss_nil)
      (pss_cons (ps_fld (pv 0) (pv 1) rfl)
      (pss_cons (ps_fld (pv 0) (pv 2) rfl)
      (pss_cons (ps_fld (pv 0) (pv 3) rfl)
      (pss_cons (ps_fld (pv 0) (pe_op op_and (pv 1) (pv 2)) rfl)
      (pss_cons (ps_fld (pv 0) (pe_op op_and (pv 1) (pe_un un_inv (pv 2))) rfl)
      (pss_cons (ps_fld (pv 0) (pe_ifExp (pt_val (pv 3)) (pe_fld (pv 0) rfl) (pe_fld (pv 0) rfl)) rfl)
      (pss_cons (ps_fld (pv 0) (pe_ifExp (pt_val (pv 3)) (pe_fld (pv 0) rfl) (pe_fld (pv 0) rfl)) rfl) (pss_one (ps_fld (pv 0) (pe_ifExp (pt_val (pv 3)) pe_int pe_int) rfl)))))))))))), ?_⟩
    have w1 := le_bits z.w1 z.n16
    have t1 := le_bits z.t1 z.n16
    have w0 : 1 ≤ c ||| b := Nat.one_le_iff_ne_zero.mpr z.ne
    walk_at "rd"
    rw [show (decide ((1 : Int) ≤ ((c ||| b : Nat) : Int)) && decide (((c ||| b : Nat) : Int) ≤ 65535)) = true by simp; omega]
    walk_at "rd"
    rw [whole16 t1]
    walk_at "rd"
    have c_Saying := T.c_Saying; have n_where := T.n_Saying_where; have n_then := T.n_Saying_then; have n_usual := T.n_Saying_usual; have n_confirm := T.n_Saying_confirm; have n_broken := T.n_Saying_broken; have n_low := T.n_Saying_low; have n_high := T.n_Saying_high; have n_step := T.n_Saying_step
    refine ⟨_, _, _, _, true, rfl, .ty _, .base (.bl _), kit_ty (by decide +kernel), ?_⟩
    walk_at "rd"
    have e1 : Builtin.bitAnd ((c ||| b : Nat) : Int) (t : Int) = (c : Int) := by rw [bit_and, z.ct]
    have e2 : Builtin.bitAnd ((c ||| b : Nat) : Int) (Builtin.bitNot (t : Int)) = (b : Int) := by rw [bit_dif, z.bt]
    simp only [e1, e2]
    cases u
    · walk_at "rd"
      exact q _ (by walk_at "own") ⟨dx, _, upd_same, (by walk_at "lk"), (by walk_at "lk"), (by walk_at "lk"), (by walk_at "lk"), (by walk_at "lk"), (by walk_at "lk"), (by walk_at "lk"), (by walk_at "lk"), (by walk_at "lk"), (by walk_at "lk"), (by walk_at "len9")⟩
    · walk_at "rd"
      exact q _ (by walk_at "own") ⟨dx, _, upd_same, (by walk_at "lk"), (by walk_at "lk"), (by walk_at "lk"), (by walk_at "lk"), (by walk_at "lk"), (by walk_at "lk"), (by walk_at "lk"), (by walk_at "lk"), (by walk_at "lk"), (by walk_at "lk"), (by walk_at "len9")⟩
def spContrary (K : PySem.W.Frag) : Sp := fun vs H Q _ => ∃ (p : Addr) (n c b t : Nat) (u : Bool), vs = [.ref p] ∧ SayAt K H p c b t u ∧ SayP n c b t ∧ ∀ H' r, Same H H' → SayAt K H' r c b t (!u) → Q (.ref r) H'
theorem sc_Saying_contrary : FnScope ["self"] ["self"] (defScope (inClass (top 64) 3)) := ⟨rfl, rfl, rfl, by decide +kernel, rfl, by decide +kernel, by decide +kernel⟩
theorem ok_Saying_contrary (T : Txt K mg) : Ok P w K mg base 4 (ma K (ga K "Saying") "contrary") ["self"] (spContrary K) := by
  obtain ⟨fd, F⟩ := T.f_Saying_contrary
  obtain ⟨_, G_Saying_init, b_Saying_init, k_Saying_init⟩ := ok_Saying_init (P := P) (w := w) (base := base) T
  refine ⟨_, F.ok sc_Saying_contrary (fun vs H Q E h => ?_) (fun cdv A outer s H vs Q E hr h => ?_), F.binds fun _ _ _ _ _ _ us hl => match us, hl with | [_], _ => rfl, F.kp⟩
  · obtain ⟨p, n, c, b, t, u, rfl, _⟩ := h
    rfl
  · obtain ⟨p, n, c, b, t, u, rfl, v1, z, q⟩ := h
    refine ⟨_, (pss_one (ps_ret (pe_make T.mk_Saying G_Saying_init (hr.mono (by decide)) rfl T.g_Saying b_Saying_init .nil pass0 (pa_cons (pe_fld (pv 0) rfl) (pa_cons (pe_fld (pv 0) rfl) (pa_cons (pe_not (pe_fld (pv 0) rfl)) pa_nil)))))), ?_⟩
    have f1 := v1.f_where T; have f2 := v1.f_then T; have f3 := v1.f_usual T
    walk_at "rd"
    intro x dx nx ndx nex
    exact ⟨H, x, dx, n, c, b, t, !u, rfl, upd_same, Same.mk nx ndx, nx, z, fun H' e a => ⟨rfl, q H' x e a⟩⟩
def spFlipped (K : PySem.W.Frag) : Sp := fun vs H Q _ => ∃ (p : Addr) (n c b t : Nat) (u : Bool), vs = [.ref p] ∧ SayAt K H p c b t u ∧ SayP n c b t ∧ ∀ H' r, Same H H' → SayAt K H' r b c b u → Q (.ref r) H'
theorem sc_Saying_flipped : FnScope ["self"] ["self"] (defScope (inClass (top 64) 4)) := ⟨rfl, rfl, rfl, by decide +kernel, rfl, by decide +kernel, by decide +kernel⟩
theorem ok_Saying_flipped (T : Txt K mg) : Ok P w K mg base 4 (ma K (ga K "Saying") "flipped") ["self"] (spFlipped K) := by
  obtain ⟨fd, F⟩ := T.f_Saying_flipped
  obtain ⟨_, G_Saying_init, b_Saying_init, k_Saying_init⟩ := ok_Saying_init (P := P) (w := w) (base := base) T
  refine ⟨_, F.ok sc_Saying_flipped (fun vs H Q E h => ?_) (fun cdv A outer s H vs Q E hr h => ?_), F.binds fun _ _ _ _ _ _ us hl => match us, hl with | [_], _ => rfl, F.kp⟩
  · obtain ⟨p, n, c, b, t, u, rfl, _⟩ := h
    rfl
  · obtain ⟨p, n, c, b, t, u, rfl, v1, z, q⟩ := h
    refine ⟨_, (pss_one (ps_ret (pe_make T.mk_Saying G_Saying_init (hr.mono (by decide)) rfl T.g_Saying b_Saying_init .nil pass0 (pa_cons (pe_fld (pv 0) rfl) (pa_cons (pe_fld (pv 0) rfl) (pa_cons (pe_fld (pv 0) rfl) pa_nil)))))), ?_⟩
    have f1 := v1.f_where T; have f2 := v1.f_broken T; have f3 := v1.f_usual T
    walk_at "rd"
    intro x dx nx ndx nex
    rw [Nat.or_comm c b]
    exact ⟨H, x, dx, n, b, c, b, u, rfl, upd_same, Same.mk nx ndx, nx, z.flip, fun H' e a => ⟨rfl, q H' x e a⟩⟩
end
end U
set_option maxHeartbeats 4100000
namespace U
open PySem L2 He
local macro_rules | `(tactic| walk_at "same") => `(tactic| first | (with_reducible assumption) | exact Same.refl _ | (refine Same.push ?_ (by assumption); walk_at "same") | (refine Same.own ?_ (by assumption); walk_at "same") | (refine Same.trans ?_ (by with_reducible assumption); walk_at "same"))
local macro_rules | `(tactic| walk_at "get") => `(tactic| first | assumption | exact upd_same | (refine get_push (by assumption) ?_; walk_at "get") | (refine get_ne (by assumption) ?_; walk_at "get") | (refine get_ne' (by assumption) ?_; walk_at "get") | (refine Same.get ?_ (by assumption); walk_at "same"))
local macro_rules | `(tactic| walk_at "has") => `(tactic| first | assumption | (refine Has.mono ?_ (by assumption); walk_at "same"))
local macro_rules | `(tactic| walk_at "sql") => `(tactic| first | assumption | exact SqL.of upd_same | exact SqL.of (by assumption) | (refine Same.seq ?_ (by assumption); walk_at "same") | (refine SqL.of ?_; walk_at "get"))
local macro_rules | `(tactic| walk_at "sqt") => `(tactic| first | assumption | exact SqT.of upd_same | exact SqT.of (by assumption) | (refine Same.tup ?_ (by assumption); walk_at "same") | (refine SqT.of ?_; walk_at "get"))
local macro_rules | `(tactic| walk_at "r1") => `(tactic| first | ((with_reducible refine ite_tt ?_ ?_); (focus exact rfl)) | ((with_reducible refine ite_ff ?_ ?_); (focus exact rfl)) | refine ⟨_, rfl, ?_⟩ | refine ⟨_, _, rfl, rfl, ?_⟩ | (refine ⟨rfl, ?_⟩) | refine ⟨(Int.natCast_nonneg _ : (0 : Int) ≤ _), ?_⟩ | refine ⟨_, _, rfl, ?_⟩ | refine ⟨_, _, _, rfl, ?_⟩ | (refine Has.ans (by walk_at "has") ?_) | refine ⟨_, _, _, _, rfl, rfl, (by walk_at "sql"), rfl, ?_⟩ | refine ⟨_, _, rfl, .inl (by walk_at "sql"), ?_⟩ | refine ⟨_, _, rfl, .inr (by walk_at "sqt"), ?_⟩ | refine ⟨_, _, _, _, rfl, rfl, (by walk_at "sqt"), rfl, ?_⟩ | refine ⟨_, _, rfl, (by walk_at "sqt"), rfl, ?_⟩ | refine ⟨_, _, _, _, rfl, (by walk_at "get"), (by assumption), (by assumption), (by walk_at "len"), ?_⟩ | refine ⟨_, _, _, _, _, rfl, (by walk_at "get"), (by assumption), (by assumption), (by walk_at "lk"), ?_⟩)
local macro_rules | `(tactic| walk_at "rd") => `(tactic| repeat walk_at "r1")
local macro_rules | `(tactic| walk_at "lk") => `(tactic| first | (with_reducible exact lk_hit) | (refine lk_miss (by decide +kernel) ?_; walk_at "lk") | rfl)
local macro_rules | `(tactic| walk_at "len") => `(tactic| (refine Nat.lt_of_le_of_lt (m := 60) ?_ (by decide); (repeat (refine len_put ?_)); exact Nat.zero_le _))
local macro_rules | `(tactic| walk_at "len9") => `(tactic| (refine Nat.le_trans (m := 60) ?_ (by decide); (repeat (refine len_put ?_)); exact Nat.zero_le _))
local macro_rules | `(tactic| walk_at "own") => `(tactic| first | assumption | (refine Same.own ?_ (by assumption); walk_at "own"))

section
variable {P : Program} {w : World} {base : Heap}
variable {K : PySem.W.Frag} {mg : Str → Option Value}
/-- a row as it stands: low, high, step -/
def RowsOf (H : Hp) (xs : List V) (rows : List UM.Row) : Prop := xs.length = rows.length ∧ ∀ (i : Nat) v, xs[i]? = some v → ∃ r a, rows[i]? = some r ∧ v = .ref a ∧ H a = some (.tup [.int (r.1 : Int), .int (r.2.1 : Int), .int (r.2.2 : Int)])
theorem RowsOf.mono {H H' : Hp} {xs : List V} {rows : List UM.Row} (e : Same H H') (h : RowsOf H xs rows) : RowsOf H' xs rows :=
  ⟨h.1, fun i v hv => let ⟨r, a, h1, h2, h3⟩ := h.2 i v hv; ⟨r, a, h1, h2, e _ _ h3⟩⟩
def spFirst (K : PySem.W.Frag) : Sp := fun vs H Q _ => ∃ (l : Addr) (d kn st : Nat) (xs : List V) (rows : List UM.Row), vs = [.ref l, .int d, .int kn, .int st] ∧ SqL K H l xs ∧ RowsOf H xs rows ∧
  ∀ H', Same H H' → (UM.blkS rows d kn st = false → Q .non H') ∧ (UM.blkS rows d kn st = true → ∀ k : Int, Q (.int k) H')
theorem blkS_take {rows : List UM.Row} {i : Nat} {r : UM.Row} {d kn st : Nat} (h : rows[i]? = some r) : UM.blkS (rows.take (i + 1)) d kn st = (UM.blkS (rows.take i) d kn st || UM.blkM r d kn st) := by
  have et : rows.take (i + 1) = rows.take i ++ [r] := by rw [List.take_add_one, h]; rfl
  unfold UM.blkS
  rw [et, List.any_append]
  simp
theorem sc_first_reason : FnScope ["rows", "day", "known", "staying", "number", "low", "high", "step"] ["rows", "day", "known", "staying"] (defScope (top 54)) := ⟨rfl, rfl, rfl, by decide +kernel, rfl, by decide +kernel, by decide +kernel⟩
theorem ok_first_reason (T : Txt K mg) : Ok P w K mg base 1 (ga K "first_reason") ["rows", "day", "known", "staying"] (spFirst K) := by
  obtain ⟨fd, F⟩ := T.d_first_reason
  refine ⟨_, F.ok sc_first_reason (fun vs H Q E h => ?_) (fun cdv A outer s H vs Q E hr h => ?_), F.binds fun _ _ _ _ _ _ us hl => match us, hl with | [_, _, _, _], _ => rfl, F.kp⟩
  · obtain ⟨l, d, kn, st, xs, rows, rfl, _⟩ := h
    rfl
  · obtain ⟨l, d, kn, st, xs, rows, rfl, hl, hs, q⟩ := h
    refine ⟨_, (pss_cons (ps_for PassesOwn.never rfl (pi_enum (by rfl) T.b_enumerate (pa_cons (pv 0) pa_nil)) (pg_tup rfl (pgs_cons (pg_name (i := 4) sc_first_reason.nd rfl (Or.inl rfl)) (pgs_cons (pg_tup rfl (pgs_cons (pg_name (i := 5) sc_first_reason.nd rfl (Or.inl rfl)) (pgs_cons (pg_name (i := 6) sc_first_reason.nd rfl (Or.inl rfl)) (pgs_cons (pg_name (i := 7) sc_first_reason.nd rfl (Or.inl rfl)) pgs_nil)))) pgs_nil))) (pss_one (ps_if (PW.pt (pw_and (pt_cmpR op_eq (pe_op op_and (pe_op op_shr (pv 6) (pv 1)) pe_int) pe_int (nomark _)) (pw_and1 (pt_cmpR op_eq (pe_op op_and (pv 5) (pe_ifExp (pt_cmpR op_eq (pv 7) pe_int (nomark _)) (pv 2) (pe_op op_or (pv 2) (pv 3)))) pe_int (nomark _))))) (pss_one (ps_ret (pv 4))) pss_nil))) (pss_one (ps_ret pe_non))), ?_⟩
    walk_at "rd"
    refine ⟨l, xs, rfl, hl, for_it (walk_enum (K := K) (a := l) (xs := xs)) (fun i σ H' => ∃ (v5 v6 v7 v8 : Option V), Same H H' ∧ σ = [some (.ref l), some (.int d), some (.int kn), some (.int st), v5, v6, v7, v8] ∧ UM.blkS (rows.take i) d kn st = false) ⟨none, none, none, none, Same.refl _, rfl, rfl⟩ (fun i σ H' _ h => by obtain ⟨_, _, _, _, e, _⟩ := h; exact e.seq hl) ?_ ?_⟩
    · rintro i x σ H1 H2 hi ⟨v5, v6, v7, v8, e1, rfl, hb⟩ ⟨Tp, y1, y2, rfl, hT, rfl, hy1, hy2⟩
      cases hy1
      obtain ⟨r, a, hr1, rfl, hr3⟩ := hs.2 i y2 hy2
      have e2 : Same H (upd H1 Tp (.tup [.int (i : Nat), .ref a])) := Same.push e1 hT
      have ht := e2 _ _ hr3
      walk_at "rd"
      have eb := blkS_take (d := d) (kn := kn) (st := st) hr1
      rw [hb, Bool.false_or] at eb
      have em : UM.blkM r d kn st = (r.2.1.testBit d && r.1 &&& (if r.2.2 = 1 then kn else kn ||| st) == 0) := rfl
      have fin0 : UM.blkM r d kn st = true → UM.blkS rows d kn st = true := fun h => by
        unfold UM.blkS
        exact List.any_eq_true.mpr ⟨r, List.mem_of_getElem? hr1, h⟩
      have cont : UM.blkM r d kn st = false → ∃ (v5 v6 v7 v8 : Option V), Same H (upd H1 Tp (.tup [.int (i : Nat), .ref a])) ∧ [some (V.ref l), some (V.int ↑d), some (V.int ↑kn), some (V.int ↑st), some (V.int i), some (V.int ↑r.1), some (V.int ↑r.2.1), some (V.int ↑r.2.2)] = [some (.ref l), some (.int d), some (.int kn), some (.int st), v5, v6, v7, v8] ∧ UM.blkS (rows.take (i + 1)) d kn st = false :=
        fun h => ⟨_, _, _, _, e2, rfl, by rw [eb, h]⟩
      simp only [bit_oneT]
      cases c1 : r.2.1.testBit d with
      | false =>
        rw [c1, Bool.false_and] at em
        walk_at "rd"
        exact cont em
      | true =>
        rw [c1, Bool.true_and] at em
        walk_at "rd"
        have low0 : ∀ m : Nat, decide (V.int (Builtin.bitAnd (r.1 : Int) (m : Int)) = V.int 0) = (r.1 &&& m == 0) := fun m => by
          rw [bit_and]
          by_cases z : r.1 &&& m = 0
          · rw [z]; rfl
          · rw [vint_ne (by omega), beq_eq_false_iff_ne.mpr z]
        have last : ∀ b : Bool, UM.blkM r d kn st = b → (if b = true then Q (.int i) (upd H1 Tp (.tup [.int (i : Nat), .ref a])) else True) := fun b hb2 => by
          cases b with
          | false => exact trivial
          | true => exact ((q _ e2).2 (fin0 hb2) i)
        by_cases c2 : r.2.2 = 1
        · have ev : decide (V.int (r.2.2 : Int) = V.int 1) = true := by rw [c2]; rfl
          rw [ev]
          rw [if_pos c2] at em
          walk_at "rd"
          simp only [low0]
          cases c3 : (r.1 &&& kn == 0) with
          | false =>
            rw [c3] at em
            walk_at "rd"
            exact cont em
          | true =>
            rw [c3] at em
            walk_at "rd"
            exact (q _ e2).2 (fin0 em) i
        · rw [vint_ne (show (r.2.2 : Int) ≠ 1 by omega)]
          rw [if_neg c2] at em
          walk_at "rd"
          simp only [bit_or, low0]
          cases c3 : (r.1 &&& (kn ||| st) == 0) with
          | false =>
            rw [c3] at em
            walk_at "rd"
            exact cont em
          | true =>
            rw [c3] at em
            walk_at "rd"
            exact (q _ e2).2 (fin0 em) i
    · rintro σ H1 ⟨v5, v6, v7, v8, e1, rfl, hb⟩
      rw [hs.1, List.take_length] at hb
      exact (q H1 e1).1 hb
end
end U
set_option maxHeartbeats 4100000
namespace U
open PySem L2 He
local macro_rules | `(tactic| walk_at "same") => `(tactic| first | (with_reducible assumption) | exact Same.refl _ | (refine Same.push ?_ (by assumption); walk_at "same") | (refine Same.own ?_ (by assumption); walk_at "same") | (refine Same.trans ?_ (by with_reducible assumption); walk_at "same"))
local macro_rules | `(tactic| walk_at "get") => `(tactic| first | assumption | exact upd_same | (refine get_push (by assumption) ?_; walk_at "get") | (refine get_ne (by assumption) ?_; walk_at "get") | (refine get_ne' (by assumption) ?_; walk_at "get") | (refine Same.get ?_ (by assumption); walk_at "same"))
local macro_rules | `(tactic| walk_at "has") => `(tactic| first | assumption | (refine Has.mono ?_ (by assumption); walk_at "same"))
local macro_rules | `(tactic| walk_at "sql") => `(tactic| first | assumption | exact SqL.of upd_same | exact SqL.of (by assumption) | (refine Same.seq ?_ (by assumption); walk_at "same") | (refine SqL.of ?_; walk_at "get"))
local macro_rules | `(tactic| walk_at "sqt") => `(tactic| first | assumption | exact SqT.of upd_same | exact SqT.of (by assumption) | (refine Same.tup ?_ (by assumption); walk_at "same") | (refine SqT.of ?_; walk_at "get"))
local macro_rules | `(tactic| walk_at "r1") => `(tactic| first | ((with_reducible refine ite_tt ?_ ?_); (focus exact rfl)) | ((with_reducible refine ite_ff ?_ ?_); (focus exact rfl)) | refine ⟨_, rfl, ?_⟩ | refine ⟨_, _, rfl, rfl, ?_⟩ | (refine ⟨rfl, ?_⟩) | refine ⟨(Int.natCast_nonneg _ : (0 : Int) ≤ _), ?_⟩ | refine ⟨_, _, rfl, ?_⟩ | refine ⟨_, _, _, rfl, ?_⟩ | (refine Has.ans (by walk_at "has") ?_) | refine ⟨_, _, _, _, rfl, rfl, (by walk_at "sql"), rfl, ?_⟩ | refine ⟨_, _, rfl, .inl (by walk_at "sql"), ?_⟩ | refine ⟨_, _, rfl, .inr (by walk_at "sqt"), ?_⟩ | refine ⟨_, _, _, _, rfl, rfl, (by walk_at "sqt"), rfl, ?_⟩ | refine ⟨_, _, rfl, (by walk_at "sqt"), rfl, ?_⟩ | refine ⟨_, _, _, _, rfl, (by walk_at "get"), (by assumption), (by assumption), (by walk_at "len"), ?_⟩ | refine ⟨_, _, _, _, _, rfl, (by walk_at "get"), (by assumption), (by assumption), (by walk_at "lk"), ?_⟩)
local macro_rules | `(tactic| walk_at "rd") => `(tactic| repeat walk_at "r1")
local macro_rules | `(tactic| walk_at "lk") => `(tactic| first | (with_reducible exact lk_hit) | (refine lk_miss (by decide +kernel) ?_; walk_at "lk") | rfl)
local macro_rules | `(tactic| walk_at "len") => `(tactic| (refine Nat.lt_of_le_of_lt (m := 60) ?_ (by decide); (repeat (refine len_put ?_)); exact Nat.zero_le _))
local macro_rules | `(tactic| walk_at "len9") => `(tactic| (refine Nat.le_trans (m := 60) ?_ (by decide); (repeat (refine len_put ?_)); exact Nat.zero_le _))
local macro_rules | `(tactic| walk_at "own") => `(tactic| first | assumption | (refine Same.own ?_ (by assumption); walk_at "own"))

section
variable {P : Program} {w : World} {base : Heap}
variable {K : PySem.W.Frag} {mg : Str → Option Value}
/-- the heap without p -/
def drp (p : Addr) (H : Hp) : Hp := fun b => if b = p then none else H b
theorem ne_fresh {H : Hp} {a b : Addr} (h : H b = none) (h2 : ∃ o, H a = some o) : a ≠ b := by
  obtain ⟨o, h2⟩ := h2
  exact ne_of_none h2 h
theorem drp_self {p : Addr} {H : Hp} : drp p H p = none := by unfold drp; rw [if_pos rfl]
theorem drp_ne {p b : Addr} {H : Hp} (h : b ≠ p) : drp p H b = H b := by unfold drp; rw [if_neg h]
theorem drp_same {p : Addr} {H : Hp} : Same (drp p H) H := fun b o e => by
  by_cases h : b = p
  · rw [h, drp_self] at e; cases e
  · rw [drp_ne h] at e; exact e
theorem same_drp {p : Addr} {H0 H : Hp} (s : Same H0 H) (h0 : H0 p = none) : Same H0 (drp p H) := fun b o e => by
  have n : b ≠ p := ne_of_none e h0
  rw [drp_ne n]
  exact s b o e
theorem flat_rep (n : Nat) (x : V) : (List.replicate n [x]).flatten = List.replicate n x := by
  induction n with
  | zero => rfl
  | succ k ih => rw [List.replicate_succ, List.flatten_cons, ih]; rfl
theorem RowsOf.put {H : Hp} {xs ys zs : List V} {rows : List UM.Row} {D : Addr} (h : RowsOf H xs rows) (hd : H D = some (.lst zs)) : RowsOf (upd H D (.lst ys)) xs rows :=
  ⟨h.1, fun i v hv => let ⟨r, a, h1, h2, h3⟩ := h.2 i v hv; ⟨r, a, h1, h2, by rw [upd_ne (ne_of h3 hd (by intro z; cases z))]; exact h3⟩⟩
theorem RowsOf.drop {H : Hp} {xs : List V} {rows : List UM.Row} {p C dx : Addr} {fs : List (Str × V)} (h : RowsOf H xs rows) (hp : H p = some (.ins C dx fs)) : RowsOf (drp p H) xs rows :=
  ⟨h.1, fun i v hv => let ⟨r, a, h1, h2, h3⟩ := h.2 i v hv; ⟨r, a, h1, h2, by rw [drp_ne (ne_of h3 hp (by intro z; cases z))]; exact h3⟩⟩
theorem RowsOf.snoc {H : Hp} {xs : List V} {rows : List UM.Row} {r : UM.Row} {a : Addr} (h : RowsOf H xs rows) (ha : H a = some (.tup [.int (r.1 : Int), .int (r.2.1 : Int), .int (r.2.2 : Int)])) : RowsOf H (xs ++ [.ref a]) (rows ++ [r]) := by
  refine ⟨by simp [h.1], fun i v hv => ?_⟩
  by_cases c : i < xs.length
  · rw [List.getElem?_append_left c] at hv
    obtain ⟨r', a', h1, h2⟩ := h.2 i v hv
    exact ⟨r', a', by rw [List.getElem?_append_left (by rw [← h.1]; exact c)]; exact h1, h2⟩
  · have hi : i = xs.length := by
      have := (List.getElem?_eq_some_iff.mp hv).1
      simp at this
      omega
    subst hi
    simp at hv
    subst hv
    exact ⟨r, a, by rw [h.1]; simp, rfl, ha⟩
/-- sayings with their rows -/
def SRows (K : PySem.W.Frag) (H : Hp) (xs : List V) (rows : List UM.Row) : Prop := xs.length = rows.length ∧ ∀ (i : Nat) v, xs[i]? = some v → ∃ (a : Addr) (c b t : Nat) (u : Bool), rows[i]? = some ((if u = true then c else b), (if u = true then b else c), (if u = true then 1 else 0)) ∧ v = .ref a ∧ SayAt K H a c b t u
theorem SRows.mono {H H' : Hp} {xs : List V} {rows : List UM.Row} (e : Same H H') (h : SRows K H xs rows) : SRows K H' xs rows :=
  ⟨h.1, fun i v hv => let ⟨a, c, b, t, u, h1, h2, h3⟩ := h.2 i v hv; ⟨a, c, b, t, u, h1, h2, h3.mono e⟩⟩
def layV : Option Nat → V
  | none => .non
  | some v => .int (v : Int)
/-- a lifting at p between two steps; H0: what it does not write -/
def LifSt (K : PySem.W.Frag) (H0 H : Hp) (p : Addr) (n : Nat) (rows : List UM.Row) (l : UM.Lay) : Prop := ∃ (rw_ st la re he : Addr) (kn : Nat) (xs rs hs : List V), Same H0 H ∧ H0 p = none ∧ H0 la = none ∧ H0 re = none ∧ H0 he = none ∧ la ≠ re ∧ la ≠ he ∧ re ≠ he ∧
  LifAt0 K H p rw_ st la re he kn ∧ (∀ d, kn.testBit d = (UM.lay l d).isSome) ∧ H la = some (.lst (l.map layV)) ∧ H re = some (.lst rs) ∧ H he = some (.lst hs) ∧ rs.length = n ∧ hs.length = n ∧ l.length = n ∧
  H0 rw_ = some (.lst xs) ∧ RowsOf H0 xs rows ∧ SqL K H0 st (List.replicate n (.int 0))
def spLifInit (K : PySem.W.Frag) : Sp := fun vs H Q _ => ∃ (H0 : Hp) (p dx sl st : Addr) (n : Nat) (xs : List V) (rows : List UM.Row), vs = [.ref p, .ref sl, .ref st] ∧ H p = some (.ins (ga K "Lifting") dx []) ∧ Same H0 H ∧ H0 p = none ∧
  SqL K H0 sl xs ∧ SRows K H0 xs rows ∧ SqL K H0 st (List.replicate n (.int 0)) ∧ n ≤ 16 ∧ xs.length ≤ 20 ∧ ∀ H0' H', Same H0 H0' → LifSt K H0' H' p n rows (List.replicate n none) → Q .non H'
def spOpen (K : PySem.W.Frag) : Sp := fun vs H Q _ => ∃ (p rw_ st la re he : Addr) (kn : Nat) (l : UM.Lay), vs = [.ref p] ∧ LifAt0 K H p rw_ st la re he kn ∧ H la = some (.lst (l.map layV)) ∧ l.length ≤ 16 ∧ ∀ H' r, Same H H' → H r = none → H' r = some (.lst ((UM.openL l).map fun (d : Nat) => V.int (d : Int))) → Q (.ref r) H'
theorem get_map {α β : Type} {f : α → β} {xs : List α} {i : Nat} {y : β} (h : (xs.map f)[i]? = some y) : ∃ x, xs[i]? = some x ∧ y = f x := by
  rw [List.getElem?_map] at h
  obtain ⟨x, h1, h2⟩ := Option.map_eq_some_iff.mp h
  exact ⟨x, h1, h2.symm⟩
theorem openL_take (l : UM.Lay) {i : Nat} {x : Option Nat} (h : l[i]? = some x) : UM.openL (l.take (i + 1)) = UM.openL (l.take i) ++ (if x = none then [i] else []) := by
  unfold UM.openL
  rw [UM.fm_succ _ h]
  split <;> rfl
theorem sc_Lifting_open_days : FnScope ["self", "day", "layer"] ["self"] (defScope (inClass (top 55) 1)) := ⟨rfl, rfl, rfl, by decide +kernel, rfl, by decide +kernel, by decide +kernel⟩
theorem ok_Lifting_open_days (T : Txt K mg) : Ok P w K mg base 1 (ma K (ga K "Lifting") "open_days") ["self"] (spOpen K) := by
  obtain ⟨fd, F⟩ := T.f_Lifting_open_days
  refine ⟨_, F.ok sc_Lifting_open_days (fun vs H Q E h => ?_) (fun cdv A outer s H vs Q E hr h => ?_), F.binds fun _ _ _ _ _ _ us hl => match us, hl with | [_], _ => rfl, F.kp⟩
  · obtain ⟨p, rw_, st, la, re, he, kn, l, rfl, _⟩ := h
    rfl
  · obtain ⟨p, rw_, st, la, re, he, kn, l, rfl, hp, hla, hn, q⟩ := h
    refine ⟨_, (pss_one (ps_ret (pe_lc (own := [("day", 1), ("layer", 2)]) rfl sc_Lifting_open_days.nd (pi_enum (by rfl) T.b_enumerate (pa_cons (pe_fld (pv 0) rfl) pa_nil)) (blkOk_by (own := [("day", 1), ("layer", 2)]) (N := ["self", "day", "layer"]) (sc := defScope (inClass (top 55) 1)) (by decide +kernel)) (fun _ _ _ _ _ => (kgtup (K := K) (n := 2) rfl (pgs_cons (pg_name (i := 1) sc_Lifting_open_days.nd rfl (Or.inl rfl)) (pgs_cons (pg_name (i := 2) sc_Lifting_open_days.nd rfl (Or.inl rfl)) pgs_nil)) rfl)) (fun _ _ _ _ _ => pts_one (pt_cmpR op_isN (pv 2) pe_non (nomark _))) (fun _ _ _ _ _ => (pv 1))))), ?_⟩
    have f1 := hp.f_layers T
    have hl : SqL K H la (l.map layV) := SqL.of hla
    walk_at "rd"
    refine ⟨la, _, rfl, hl, fun D hD => lc_it (walk_enum (K := K) (a := la) (xs := l.map layV)) (fun i H' => Same H H' ∧ H' D = some (.lst ((UM.openL (l.take i)).map fun (d : Nat) => V.int (d : Int)))) ⟨Same.new hD, upd_same⟩ (fun i H' _ h => h.1.seq hl) ?_ ?_⟩
    · rintro i x H1 H2 hi ⟨e1, e2⟩ ⟨Tp, y1, y2, rfl, hT, rfl, hy1, hy2⟩
      cases hy1
      obtain ⟨z, hz, rfl⟩ := get_map hy2
      have s2 : Same H (upd H1 Tp (.tup [.int (i : Nat), layV z])) := Same.push e1 hT
      have nD : D ≠ Tp := ne_of_none e2 hT
      have ot := openL_take l hz
      walk_at "rd"
      cases z with
      | none =>
        walk_at "rd"
        refine ⟨_, by rw [upd_ne nD]; exact e2, ?_, Same.own s2 hD, ?_⟩
        · rw [List.length_map]
          exact Nat.lt_of_le_of_lt (UM.fm_len_take _ l i) (by rw [List.length_map] at hi; exact Nat.lt_trans hi (Nat.lt_of_le_of_lt hn (by decide)))
        · rw [upd_same, ot, if_pos rfl, List.map_append]
          rfl
      | some v =>
        walk_at "rd"
        refine ⟨s2, ?_⟩
        rw [upd_ne nD, e2, ot, if_neg (by simp), List.append_nil]
    · rintro H1 ⟨e1, e2⟩
      rw [List.length_map, List.take_length] at e2
      exact q H1 D e1 hD e2
theorem sc_Lifting_init : FnScope ["self", "sayings", "start", "saying"] ["self", "sayings", "start"] (defScope (inClass (top 55) 0)) := ⟨rfl, rfl, rfl, by decide +kernel, rfl, by decide +kernel, by decide +kernel⟩
theorem ok_Lifting_init (T : Txt K mg) : Ok P w K mg base 1 (ma K (ga K "Lifting") "__init__") ["self", "sayings", "start"] (spLifInit K) := by
  obtain ⟨fd, F⟩ := T.f_Lifting_init
  refine ⟨_, F.ok sc_Lifting_init (fun vs H Q E h => ?_) (fun cdv A outer s H vs Q E hr h => ?_), F.binds fun _ _ _ _ _ _ us hl => match us, hl with | [_, _, _], _ => rfl, F.kp⟩
  · obtain ⟨H0, p, dx, sl, st, n, xs, rows, rfl, _⟩ := h
    rfl
  · obtain ⟨H0, p, dx, sl, st, n, xs, rows, rfl, hp, s0, p0, hsl, hsr, hst, hn, hx, q⟩ := h
    refine ⟨_, (pss_cons (ps_fld (pv 0) (pe_lc (own := [("saying", 3)]) rfl sc_Lifting_init.nd (pi_list (pv 1)) (blkOk_by (own := [("saying", 3)]) (N := ["self", "sayings", "start", "saying"]) (sc := defScope (inClass (top 55) 0)) (by decide +kernel)) (fun _ _ _ _ _ => (pg_name (i := 3) sc_Lifting_init.nd rfl (Or.inl rfl))) (fun _ _ _ _ _ => pts_nil) (fun _ _ _ _ _ => (pe_tup (pa_cons (kfld (K := K) (pv 3) rfl rfl) (pa_cons (kfld (K := K) (pv 3) rfl rfl) (pa_cons (kfld (K := K) (pv 3) rfl rfl) pa_nil)))))) rfl)
      (pss_cons (ps_fld (pv 0) (pv 2) rfl)
      (pss_cons (ps_fld (pv 0) (pe_op op_rep (pe_lst (pa_cons pe_non pa_nil)) (pe_callB call_len_seq (by rfl) T.b_len (by decide +kernel) (pa_cons (pv 2) pa_nil))) rfl)
      (pss_cons (ps_fld (pv 0) (pe_op op_rep (pe_lst (pa_cons pe_non pa_nil)) (pe_callB call_len_seq (by rfl) T.b_len (by decide +kernel) (pa_cons (pv 2) pa_nil))) rfl)
      (pss_cons (ps_fld (pv 0) (pe_op op_rep (pe_lst (pa_cons pe_int pa_nil)) (pe_callB call_len_seq (by rfl) T.b_len (by decide +kernel) (pa_cons (pv 2) pa_nil))) rfl) (pss_one (ps_fld (pv 0) pe_int rfl))))))), ?_⟩
    have c_Lifting := T.c_Lifting; have n_rows := T.n_Lifting_rows; have n_start := T.n_Lifting_start; have n_layers := T.n_Lifting_layers; have n_reasons := T.n_Lifting_reasons; have n_heights := T.n_Lifting_heights; have n_known := T.n_Lifting_known
    walk_at "rd"
    refine ⟨⟨_, s0.seq hsl⟩, fun D hD => lc_it (walk_list (K := K) (a := sl) (xs := xs)) (fun i H' => ∃ acc, Same H H' ∧ H' D = some (.lst acc) ∧ RowsOf H' acc (rows.take i)) ⟨[], Same.new hD, upd_same, rfl, fun i v hv => by cases hv⟩ (fun i H' _ h => by obtain ⟨acc, e1, _⟩ := h; exact e1.seq (s0.seq hsl)) ?_ ?_⟩
    · rintro i x H1 H2 hi ⟨acc, e1, e2, e3⟩ ⟨rfl, hx1⟩
      obtain ⟨a, c, b, t, u, hr1, rfl, hr3⟩ := hsr.2 i x hx1
      have hr4 := (hr3.mono s0).mono e1
      have f1 := hr4.f_low T; have f2 := hr4.f_high T; have f3 := hr4.f_step T
      walk_at "rd"
      refine ⟨by show 3 ≤ sizeLine; decide, fun tp htp => ?_⟩
      have nD : D ≠ tp := ne_of_none e2 htp
      refine ⟨acc, by rw [upd_ne nD]; exact e2, ?_, acc ++ [.ref tp], Same.own (Same.push e1 htp) hD, upd_same, ?_⟩
      · rw [e3.1, List.length_take]
        exact Nat.lt_of_le_of_lt (Nat.min_le_left _ _) (Nat.lt_trans hi (Nat.lt_of_le_of_lt hx (by decide)))
      · have et : rows.take (i + 1) = rows.take i ++ [((if u = true then c else b), (if u = true then b else c), (if u = true then 1 else 0))] := by rw [List.take_add_one, hr1]; rfl
        rw [et]
        exact ((e3.mono (Same.new htp)).snoc upd_same).put (show upd _ tp _ D = some (.lst acc) by rw [upd_ne nD]; exact e2)
    · rintro H1 ⟨acc, e1, e2, e3⟩
      rw [hsr.1, List.take_length] at e3
      have hp1 := e1 _ _ hp
      have s1 : Same H0 H1 := s0.trans e1
      walk_at "rd"
      refine ⟨by show 1 ≤ sizeLine; decide, fun b1 hb1 => ?_⟩
      walk_at "rd"
      refine ⟨_, _, _, rfl, rfl, upd_same, by rw [List.length_replicate]; omega, by rw [List.length_replicate]; omega, by rw [List.length_replicate, Int.toNat_natCast]; exact Nat.le_trans (by omega : 1 * n ≤ 16) (by decide), fun la hla => ?_⟩
      walk_at "rd"
      refine ⟨by show 1 ≤ sizeLine; decide, fun b2 hb2 => ?_⟩
      walk_at "rd"
      refine ⟨_, _, _, rfl, rfl, upd_same, by rw [List.length_replicate]; omega, by rw [List.length_replicate]; omega, by rw [List.length_replicate, Int.toNat_natCast]; exact Nat.le_trans (by omega : 1 * n ≤ 16) (by decide), fun re hre => ?_⟩
      walk_at "rd"
      refine ⟨by show 1 ≤ sizeLine; decide, fun b3 hb3 => ?_⟩
      walk_at "rd"
      refine ⟨_, _, _, rfl, rfl, upd_same, by rw [List.length_replicate]; omega, by rw [List.length_replicate]; omega, by rw [List.length_replicate, Int.toNat_natCast]; exact Nat.le_trans (by omega : 1 * n ≤ 16) (by decide), fun he hhe => ?_⟩
      walk_at "rd"
      have sd : Same (drp p H1) H1 := drp_same
      have d0 : drp p H1 p = none := drp_self
      have n1 : p ≠ la := by { refine ne_fresh hla ⟨?_, ?_⟩; rotate_left; walk_at "get" }
      have n2 : p ≠ re := by { refine ne_fresh hre ⟨?_, ?_⟩; rotate_left; walk_at "get" }
      have n3 : p ≠ he := by { refine ne_fresh hhe ⟨?_, ?_⟩; rotate_left; walk_at "get" }
      have n4 : la ≠ re := by { refine ne_fresh hre ⟨?_, ?_⟩; rotate_left; walk_at "get" }
      have n5 : la ≠ he := by { refine ne_fresh hhe ⟨?_, ?_⟩; rotate_left; walk_at "get" }
      have n6 : re ≠ he := by { refine ne_fresh hhe ⟨?_, ?_⟩; rotate_left; walk_at "get" }
      have f1 : drp p H1 la = none := Same.free (by walk_at "same") hla
      have f2 : drp p H1 re = none := Same.free (by walk_at "same") hre
      have f3 : drp p H1 he = none := Same.free (by walk_at "same") hhe
      have ev : ∀ x : V, (List.replicate (((List.replicate n (V.int 0)).length : Nat) : Int).toNat [x]).flatten = List.replicate n x := fun x => by
        rw [List.length_replicate, Int.toNat_natCast]
        exact flat_rep n x
      refine q (drp p H1) _ (same_drp s1 p0) ⟨D, st, la, re, he, 0, acc, List.replicate n .non, List.replicate n (.int 0), (by walk_at "same"), d0, f1, f2, f3, n4, n5, n6, ⟨dx, _, upd_same, (by walk_at "lk"), (by walk_at "lk"), (by walk_at "lk"), (by walk_at "lk"), (by walk_at "lk"), (by walk_at "lk"), (by walk_at "lk"), (by walk_at "lk"), (by walk_at "lk"), (by walk_at "len9")⟩, fun d => by rw [UM.lay_start, Nat.zero_testBit]; rfl, ?_, ?_, ?_, by simp, by simp, by simp, ?_, e3.drop hp1, same_drp s1 p0 |>.seq hst⟩
      · rw [List.map_replicate]
        refine (?_ : _ = some (HO.lst _)).trans (congrArg (fun z => some (HO.lst z)) (ev .non))
        walk_at "get"
      · refine (?_ : _ = some (HO.lst _)).trans (congrArg (fun z => some (HO.lst z)) (ev .non))
        walk_at "get"
      · refine (?_ : _ = some (HO.lst _)).trans (congrArg (fun z => some (HO.lst z)) (ev (.int 0)))
        walk_at "get"
      · rw [drp_ne (ne_of e2 hp1 (by intro z; cases z))]; exact e2
end
end U
set_option maxHeartbeats 4100000
namespace U
open PySem L2 He
local macro_rules | `(tactic| walk_at "same") => `(tactic| first | (with_reducible assumption) | exact Same.refl _ | (refine Same.push ?_ (by assumption); walk_at "same") | (refine Same.own ?_ (by assumption); walk_at "same") | (refine Same.trans ?_ (by with_reducible assumption); walk_at "same"))
local macro_rules | `(tactic| walk_at "get") => `(tactic| first | assumption | exact upd_same | (refine get_push (by assumption) ?_; walk_at "get") | (refine get_ne (by assumption) ?_; walk_at "get") | (refine get_ne' (by assumption) ?_; walk_at "get") | (refine Same.get ?_ (by assumption); walk_at "same"))
local macro_rules | `(tactic| walk_at "has") => `(tactic| first | assumption | (refine Has.mono ?_ (by assumption); walk_at "same"))
local macro_rules | `(tactic| walk_at "sql") => `(tactic| first | assumption | exact SqL.of upd_same | exact SqL.of (by assumption) | (refine Same.seq ?_ (by assumption); walk_at "same") | (refine SqL.of ?_; walk_at "get"))
local macro_rules | `(tactic| walk_at "sqt") => `(tactic| first | assumption | exact SqT.of upd_same | exact SqT.of (by assumption) | (refine Same.tup ?_ (by assumption); walk_at "same") | (refine SqT.of ?_; walk_at "get"))
local macro_rules | `(tactic| walk_at "r1") => `(tactic| first | ((with_reducible refine ite_tt ?_ ?_); (focus exact rfl)) | ((with_reducible refine ite_ff ?_ ?_); (focus exact rfl)) | refine ⟨_, rfl, ?_⟩ | refine ⟨_, _, rfl, rfl, ?_⟩ | (refine ⟨rfl, ?_⟩) | refine ⟨(Int.natCast_nonneg _ : (0 : Int) ≤ _), ?_⟩ | refine ⟨_, _, rfl, ?_⟩ | refine ⟨_, _, _, rfl, ?_⟩ | (refine Has.ans (by walk_at "has") ?_) | refine ⟨_, _, _, _, rfl, rfl, (by walk_at "sql"), rfl, ?_⟩ | refine ⟨_, _, rfl, .inl (by walk_at "sql"), ?_⟩ | refine ⟨_, _, rfl, .inr (by walk_at "sqt"), ?_⟩ | refine ⟨_, _, _, _, rfl, rfl, (by walk_at "sqt"), rfl, ?_⟩ | refine ⟨_, _, rfl, (by walk_at "sqt"), rfl, ?_⟩ | refine ⟨_, _, _, _, rfl, (by walk_at "get"), (by assumption), (by assumption), (by walk_at "len"), ?_⟩ | refine ⟨_, _, _, _, _, rfl, (by walk_at "get"), (by assumption), (by assumption), (by walk_at "lk"), ?_⟩)
local macro_rules | `(tactic| walk_at "rd") => `(tactic| repeat walk_at "r1")
local macro_rules | `(tactic| walk_at "lk") => `(tactic| first | (with_reducible exact lk_hit) | (refine lk_miss (by decide +kernel) ?_; walk_at "lk") | rfl)
local macro_rules | `(tactic| walk_at "len") => `(tactic| (refine Nat.lt_of_le_of_lt (m := 60) ?_ (by decide); (repeat (refine len_put ?_)); exact Nat.zero_le _))
local macro_rules | `(tactic| walk_at "len9") => `(tactic| (refine Nat.le_trans (m := 60) ?_ (by decide); (repeat (refine len_put ?_)); exact Nat.zero_le _))
local macro_rules | `(tactic| walk_at "own") => `(tactic| first | assumption | (refine Same.own ?_ (by assumption); walk_at "own"))

section
variable {P : Program} {w : World} {base : Heap}
variable {K : PySem.W.Frag} {mg : Str → Option Value}
theorem dp_flat {H : Hp} : ∀ {xs : List V}, (∀ v ∈ xs, v = .non ∨ ∃ i, v = .int i) → ∃ ds, DpAll K H xs ds ∧ PyData.canLayAll0 ds = true ∧ PyData.depthAll ds = 0 ∧ PyData.eqvAll ds [] = xs.isEmpty
  | [], _ => ⟨[], .nil, rfl, rfl, rfl⟩
  | v :: xs, h => by
    obtain ⟨ds, h1, h2, h3, _⟩ := dp_flat (H := H) fun v hv => h v (List.mem_cons_of_mem _ hv)
    rcases h v List.mem_cons_self with rfl | ⟨i, rfl⟩
    · refine ⟨_, .cons .non h1, ?_, ?_, rfl⟩
      · show (true && PyData.canLayAll0 ds) = true
        rw [h2]; rfl
      · show max 0 (PyData.depthAll ds) = 0
        rw [h3]; rfl
    · refine ⟨_, .cons (.int i) h1, ?_, ?_, rfl⟩
      · show (true && PyData.canLayAll0 ds) = true
        rw [h2]; rfl
      · show max 0 (PyData.depthAll ds) = 0
        rw [h3]; rfl
theorem shaped_flat {ds : List PyData} (h2 : PyData.canLayAll0 ds = true) (h3 : PyData.depthAll ds = 0) : PySem.SeqAt.shaped (.list ds) = true := by
  unfold PySem.SeqAt.shaped PyData.canLay0 PyData.depth
  rw [h2, h3]
  decide
theorem ne_empty {H : Hp} {a e : Addr} {xs : List V} {Q : VK} (ha : SqL K H a xs) (hf : ∀ v ∈ xs, v = .non ∨ ∃ i, v = .int i) (he : SqL K H e []) (q : Q (.bl (!xs.isEmpty)) H) : rNeD K (.ref a) (.ref e) H Q := by
  obtain ⟨ds, h1, h2, h3, h4⟩ := dp_flat (K := K) (H := H) hf
  refine ⟨_, _, .lst ha h1, .lst he .nil, shaped_flat h2 h3, shaped_flat (ds := []) rfl rfl, ?_⟩
  show Q (.bl (!PyData.eqvAll ds [])) H
  rw [h4]
  exact q
theorem eq_empty {H : Hp} {a e : Addr} {xs : List V} {Q : VK} (ha : SqL K H a xs) (hf : ∀ v ∈ xs, v = .non ∨ ∃ i, v = .int i) (he : SqL K H e []) (q : Q (.bl xs.isEmpty) H) : rEqD K (.ref a) (.ref e) H Q := by
  obtain ⟨ds, h1, h2, h3, h4⟩ := dp_flat (K := K) (H := H) hf
  refine ⟨_, _, .lst ha h1, .lst he .nil, shaped_flat h2 h3, shaped_flat (ds := []) rfl rfl, ?_⟩
  show Q (.bl (PyData.eqvAll ds [])) H
  rw [h4]
  exact q
def dV (ds : List Nat) : List V := ds.map fun (d : Nat) => V.int (d : Int)
theorem dV_flat {ds : List Nat} : ∀ v ∈ dV ds, v = .non ∨ ∃ i, v = .int i := fun v hv => let ⟨d, _, e⟩ := List.mem_map.mp hv; .inr ⟨_, e.symm⟩
theorem putF_len {f : Str} {v : V} : ∀ {fs : List (Str × V)} {u : V}, fs.lookup f = some u → (putF f v fs).length ≤ fs.length := by
  intro fs
  induction fs with
  | nil => intro u h; cases h
  | cons p fs ih =>
    obtain ⟨g, x⟩ := p
    intro u h
    unfold putF
    by_cases c : f = g
    · subst c
      simp
    · have c2 : (f == g) = false := by simpa using c
      rw [List.lookup_cons, c2] at h
      simp only [c2, List.length_cons]
      first
      | exact Nat.succ_le_succ (ih h)
      | (split <;> simp_all)
theorem LifAt0.known {H : Hp} {p rw_ st la re he : Addr} {kn : Nat} (k2 : Nat) (h : LifAt0 K H p rw_ st la re he kn) : ∃ dx fs, H p = some (.ins (ga K "Lifting") dx fs) ∧ fs.length ≤ 900 ∧ LifAt0 K (upd H p (.ins (ga K "Lifting") dx (putF ("known" : Str) (.int (k2 : Int)) fs))) p rw_ st la re he k2 := by
  obtain ⟨dx, fs, h0, h1, h2, h3, h4, h5, h6, h7, h8, h9, hl⟩ := h
  exact ⟨dx, fs, h0, hl, dx, _, upd_same, lk_miss (by decide +kernel) h1, lk_miss (by decide +kernel) h2, lk_miss (by decide +kernel) h3, lk_miss (by decide +kernel) h4, lk_miss (by decide +kernel) h5, lk_hit, lk_miss (by decide +kernel) h7, lk_miss (by decide +kernel) h8, lk_miss (by decide +kernel) h9, Nat.le_trans (putF_len h6) hl⟩
def spSettle (K : PySem.W.Frag) : Sp := fun vs H Q _ => ∃ (H0 : Hp) (p : Addr) (at_ n : Nat) (rows : List UM.Row) (l : UM.Lay), vs = [.ref p, .int at_] ∧ LifSt K H0 H p n rows l ∧ n ≤ 16 ∧
  ∀ H' r ds, H0 r = none → H' r = some (.lst (dV ds)) → LifSt K H0 H' p n rows (UM.setAll l ds at_) → UM.Found rows l ds → Q (.ref r) H'
theorem dV_take {ds : List Nat} {i d : Nat} (h : ds[i]? = some d) : dV (ds.take (i + 1)) = dV (ds.take i) ++ [V.int (d : Int)] := by
  rw [List.take_add_one, h]
  unfold dV
  rw [List.map_append]
  rfl
theorem dV_len (ds : List Nat) : (dV ds).length = ds.length := List.length_map ..
theorem take_len_lt {α : Type} {ds : List α} {i n : Nat} (h : ds.length ≤ n) (hi : i < ds.length) : (ds.take i).length < n := by rw [List.length_take]; omega
theorem atI_nat {α : Type} {xs : List α} {d : Nat} {v : α} (h : xs[d]? = some v) : atI xs (d : Int) = some v := by
  have hl := (List.getElem?_eq_some_iff.mp h).1
  unfold atI ixN
  rw [if_pos (Int.natCast_nonneg d), if_pos (by omega)]
  exact h
theorem ixN_nat {n d : Nat} (h : d < n) : ixN n (d : Int) = some d := by
  unfold ixN
  rw [if_pos (Int.natCast_nonneg d), if_pos (by omega)]
  rfl
theorem inV_dV (d : Nat) : ∀ ls : List Nat, inV (.int (d : Int)) (dV ls) = decide (d ∈ ls)
  | [] => rfl
  | e :: ls => by
    have ih := inV_dV d ls
    unfold inV at ih ⊢
    show (eqV (V.int (e : Int)) (.int (d : Int)) || (dV ls).any fun y => eqV y (.int (d : Int))) = _
    rw [ih]
    have : eqV (V.int (e : Int)) (.int (d : Int)) = decide (d = e) := by
      by_cases h : d = e
      · subst h; simp [eqV]
      · simp [eqV, h]; omega
    rw [this]
    simp
theorem flat_dV : ∀ ls : List Nat, (dV ls).all flatV = true
  | [] => rfl
  | e :: ls => by show (flatV (V.int (e : Int)) && (dV ls).all flatV) = true; rw [flat_dV ls]; rfl
theorem setAll_take {l : UM.Lay} {ds : List Nat} {i d v : Nat} (h : ds[i]? = some d) : UM.setAll l (ds.take (i + 1)) v = (UM.setAll l (ds.take i) v).set d (some v) := by
  rw [List.take_add_one, h]
  unfold UM.setAll
  rw [List.foldl_append]
  rfl
theorem filter_take {ds : List Nat} {i d : Nat} {f : Nat → Bool} (h : ds[i]? = some d) : (ds.take (i + 1)).filter f = (ds.take i).filter f ++ (if f d = true then [d] else []) := by
  rw [List.take_add_one, h, List.filter_append ]
  cases e : f d <;> simp [e]
theorem tb_or_pow (m d e : Nat) : (m ||| 2 ^ d).testBit e = (m.testBit e || decide (d = e)) := by
  rw [Nat.testBit_or, Nat.testBit_two_pow]
theorem sum_pow (ds : List Nat) : (ds.map fun (d : Nat) => ((2 ^ d : Nat) : Int)).sum = ((UM.maskL ds : Nat) : Int) := by
  induction ds with
  | nil => rfl
  | cons d ds ih =>
    rw [List.map_cons, List.sum_cons, ih]
    unfold UM.maskL
    rw [List.map_cons, List.sum_cons, Int.natCast_add]
theorem sc_Lifting_settle : FnScope ["self", "at", "days", "turn", "leaving", "staying", "day", "number"] ["self", "at"] (defScope (inClass (top 55) 2)) := ⟨rfl, rfl, rfl, by decide +kernel, rfl, by decide +kernel, by decide +kernel⟩
theorem ok_Lifting_settle (T : Txt K mg) : Ok P w K mg base 2 (ma K (ga K "Lifting") "settle") ["self", "at"] (spSettle K) := by
  obtain ⟨fd, F⟩ := T.f_Lifting_settle
  obtain ⟨_, G_Lifting_open_days, b_Lifting_open_days, k_Lifting_open_days⟩ := ok_Lifting_open_days (P := P) (w := w) (base := base) T
  obtain ⟨_, G_first_reason, b_first_reason, k_first_reason⟩ := ok_first_reason (P := P) (w := w) (base := base) T
  refine ⟨_, F.ok sc_Lifting_settle (fun vs H Q E h => ?_) (fun cdv A outer s H vs Q E hr h => ?_), F.binds fun _ _ _ _ _ _ us hl => match us, hl with | [_, _], _ => rfl, F.kp⟩
  · obtain ⟨H0, p, at_, n, rows, l, rfl, _⟩ := h
    rfl
  · obtain ⟨H0, p, at_, n, rows, l, rfl, ⟨rw_, st, la, re, he, kn, xs, rs, hs, s0, p0, la0, re0, he0, nlr, nlh, nrh, hp, hk, hla, hre, hhe, hrs, hhs, hln, hrw, hro, hst⟩, hn, q⟩ := h
    refine ⟨_, (pss_cons (ps_setLc (i := 2) (own := [("day", 6)]) rfl sc_Lifting_settle.nd rfl rfl (sw_true rfl rfl rfl (by decide +kernel)) (pi_list (pe_meth0 (pv 0) T.c_Lifting T.m_Lifting_open_days G_Lifting_open_days (hr.mono (by decide)) b_Lifting_open_days .nil pass0)) (blkOk_by (own := [("day", 6)]) (N := ["self", "at", "days", "turn", "leaving", "staying", "day", "number"]) (sc := defScope (inClass (top 55) 2)) (by decide +kernel)) (fun _ _ _ _ _ => (pg_name (i := 6) sc_Lifting_settle.nd rfl (Or.inl rfl))) (fun _ _ _ _ _ => pts_one (pt_cmpR op_le (kix (K := K) (kfld (K := K) (pv 0) rfl rfl) (pv 6) (fun _ _ => rfl) rfl) (pv 1) (nomark _))) (fun _ _ _ _ _ => (pv 6)))
      (pss_cons (ps_set (i := 3) sc_Lifting_settle.nd rfl (Or.inl rfl) pe_int)
      (pss_cons (ps_set (i := 4) sc_Lifting_settle.nd rfl (Or.inr rfl) (pe_lst (pa_cons pe_int pa_nil)))
      (pss_cons (ps_while PassesOwn.never (pt_cmpR (op_neD hr.units) (pv 4) (pe_lst pa_nil) (nomark _)) (pss_cons (ps_set (i := 5) sc_Lifting_settle.nd rfl (Or.inl rfl) (pe_callB (cr_sum rfl) (by rfl) T.b_sum (by decide +kernel) (pa_cons (pe_lc (own := [("day", 6)]) rfl sc_Lifting_settle.nd (pi_list (pv 2)) (blkOk_by (own := [("day", 6)]) (N := ["self", "at", "days", "turn", "leaving", "staying", "day", "number"]) (sc := defScope (inClass (top 55) 2)) (by decide +kernel)) (fun _ _ _ _ _ => (pg_name (i := 6) sc_Lifting_settle.nd rfl (Or.inl rfl))) (fun _ _ _ _ _ => pts_nil) (fun _ _ _ _ _ => (pe_op op_shl pe_int (pv 6)))) pa_nil)))
      (pss_cons (ps_set (i := 4) sc_Lifting_settle.nd rfl (Or.inr rfl) (pe_lst pa_nil))
      (pss_cons (ps_for PassesOwn.never rfl (pi_list (pv 2)) (pg_name (i := 6) sc_Lifting_settle.nd rfl (Or.inl rfl)) (pss_cons (ps_set (i := 7) sc_Lifting_settle.nd rfl (Or.inl rfl) (pe_call G_first_reason (hr.mono (by decide)) rfl T.g_first_reason k_first_reason b_first_reason .nil pass0 (pa_cons (pe_fld (pv 0) rfl) (pa_cons (pv 6) (pa_cons (pe_fld (pv 0) rfl) (pa_cons (pv 5) pa_nil)))))) (pss_one (ps_if (pt_cmpR op_notN (pv 7) pe_non (nomark _)) (pss_cons (ps_asg (pv 7) (pg_sub (pe_fld (pv 0) rfl) (pv 6) set_list))
      (pss_cons (ps_asg (pv 3) (pg_sub (pe_fld (pv 0) rfl) (pv 6) set_list)) (pss_one (ps_expr (pe_bm PySem.F.plainAttrs_list PySem.F.slot_list_append PySem.F.type_list_append mt_append (pv 4) (pa_cons (pv 6) pa_nil)))))) pss_nil))))
      (pss_cons (ps_setLc (i := 2) (own := [("day", 6)]) rfl sc_Lifting_settle.nd rfl rfl (sw_true rfl rfl rfl (by decide +kernel)) (pi_list (pv 2)) (blkOk_by (own := [("day", 6)]) (N := ["self", "at", "days", "turn", "leaving", "staying", "day", "number"]) (sc := defScope (inClass (top 55) 2)) (by decide +kernel)) (fun _ _ _ _ _ => (pg_name (i := 6) sc_Lifting_settle.nd rfl (Or.inl rfl))) (fun _ _ _ _ _ => pts_one (pt_cmpR (kNotIn (K := K) rfl) (pv 6) (pv 4) rfl)) (fun _ _ _ _ _ => (pv 6))) (pss_one (ps_set (i := 3) sc_Lifting_settle.nd rfl (Or.inl rfl) (pe_op op_add (pv 3) pe_int))))))))
      (pss_cons (ps_for PassesOwn.never rfl (pi_list (pv 2)) (pg_name (i := 6) sc_Lifting_settle.nd rfl (Or.inl rfl)) (pss_cons (ps_asg (pv 1) (pg_sub (pe_fld (pv 0) rfl) (pv 6) set_list)) (pss_one (ps_fld (pv 0) (pe_op op_or (pe_fld (pv 0) rfl) (pe_op op_shl pe_int (pv 6))) rfl)))) (pss_one (ps_ret (pv 2)))))))), ?_⟩
    have c_Lifting := T.c_Lifting; have n_rows := T.n_Lifting_rows; have n_start := T.n_Lifting_start; have n_layers := T.n_Lifting_layers; have n_reasons := T.n_Lifting_reasons; have n_heights := T.n_Lifting_heights; have n_known := T.n_Lifting_known
    have ol : (UM.openL l).length ≤ 16 := by
      have := UM.fm_len (fun i (x : Option Nat) => if x = none then some i else none) l
      exact Nat.le_trans this (by omega)
    have fst := hp.f_start T; have frw := hp.f_rows T
    walk_at "rd"
    obtain ⟨dx, fs, hpe, hlk⟩ := hp.m_open_days
    refine ⟨p, dx, fs, rfl, hpe, hlk, ?_⟩
    refine ⟨p, rw_, st, la, re, he, kn, l, rfl, hp, hla, by omega, fun H1 R e1 hR hR1 => ⟨R, rfl, ⟨_, SqL.of hR1⟩, fun D hD => lc_it (walk_list (K := K) (a := R) (xs := dV (UM.openL l))) (fun i H' => Same H H' ∧ R ≠ D ∧ H D = none ∧ H' R = some (.lst (dV (UM.openL l))) ∧ H' D = some (.lst (dV ((UM.openL l).take i)))) ⟨Same.trans e1 (Same.new hD), ne_of_none hR1 hD, Same.free e1 hD, by rw [upd_ne (ne_of_none hR1 hD)]; exact hR1, upd_same⟩ (fun i H' _ h => SqL.of h.2.2.2.1) ?_ ?_⟩⟩
    · rintro i x H2 H3 hi ⟨e2, nRD, hD', h2, h3⟩ ⟨rfl, hx⟩
      obtain ⟨d, hd, rfl⟩ := get_map hx
      have hdn : d < n := by have := (UM.mem_openL.mp (List.mem_of_getElem? hd)).1; omega
      walk_at "rd"
      refine ⟨_, _, _, _, rfl, rfl, Same.seq (Same.trans s0 e2) hst, atI_nat (v := V.int 0) (by rw [List.getElem?_replicate, if_pos hdn]), ?_⟩
      walk_at "rd"
      refine ⟨_, h3, ?_, Same.own e2 hD', nRD, hD', by rw [upd_ne nRD]; exact h2, by rw [upd_same, dV_take hd]⟩
      rw [dV_len]
      exact take_len_lt (Nat.le_trans ol (by decide)) (by rw [dV_len] at hi; exact hi)
    · rintro H2 ⟨e2, nRD, hD', h2, h3⟩
      rw [dV_len, List.take_length] at h3
      refine ⟨by show 1 ≤ sizeLine; decide, fun lv0 hlv0 => ?_⟩
      have nre0 : re ≠ D := ne_of_none hre hD'
      have nhe0 : he ≠ D := ne_of_none hhe hD'
      have nDl : D ≠ lv0 := ne_of_none h3 hlv0
      let Hb : Hp := drp re (drp he H)
      have bH : Same Hb H := Same.trans drp_same drp_same
      have s0b : Same H0 Hb := same_drp (same_drp s0 he0) re0
      have bre : Hb re = none := drp_self
      have bhe : Hb he = none := by show drp re (drp he H) he = none; rw [drp_ne (Ne.symm nrh), drp_self]
      have npr : p ≠ re := by obtain ⟨_, _, z⟩ := hp.ins; exact ne_of z hre (by intro z; cases z)
      have nph : p ≠ he := by obtain ⟨_, _, z⟩ := hp.ins; exact ne_of z hhe (by intro z; cases z)
      have bp : LifAt0 K Hb p rw_ st la re he kn := by
        obtain ⟨dx, fs, z, zz⟩ := hp
        refine ⟨dx, fs, ?_, zz⟩
        show drp re (drp he H) p = _
        rw [drp_ne npr, drp_ne nph]
        exact z
      have bla : Hb la = some (.lst (l.map layV)) := by
        show drp re (drp he H) la = _
        rw [drp_ne nlr, drp_ne nlh]
        exact hla
      refine ⟨fun m σ H' => ∃ (D lv : Addr) (ds : List Nat) (lvs : List V) (t : Nat) (rs hs : List V) (v5 v6 v7 : Option V), σ = [some (.ref p), some (.int at_), some (.ref D), some (.int t), some (.ref lv), v5, v6, v7] ∧
        Same Hb H' ∧ H' re = some (.lst rs) ∧ rs.length = n ∧ H' he = some (.lst hs) ∧ hs.length = n ∧ H' D = some (.lst (dV ds)) ∧ Hb D = none ∧ D ≠ re ∧ D ≠ he ∧ H' lv = some (.lst lvs) ∧ (∀ v ∈ lvs, v = .non ∨ ∃ i, v = .int i) ∧
        ((lvs ≠ [] ∧ UM.Holds rows l ds ∧ m = ds.length + 1) ∨ (lvs = [] ∧ UM.Found rows l ds ∧ m = 0)), ⟨_, D, lv0, _, _, 0, rs, hs, none, none, none, rfl, Same.trans bH (Same.push e2 hlv0), ?_, hrs, ?_, hhs, ?_, ?_, nre0.symm, nhe0.symm, upd_same, ?_, .inl ⟨(by intro z; cases z), UM.holds_open rows l, rfl⟩⟩, ?_⟩
      · exact get_push hlv0 (e2 _ _ hre)
      · exact get_push hlv0 (e2 _ _ hhe)
      · exact get_push hlv0 h3
      · exact Same.free bH hD'
      · intro v hv
        exact .inr ⟨_, List.mem_singleton.mp hv⟩
      rintro m σ H4 ⟨D, lv, ds, lvs, t, rs, hs, v5, v6, v7, rfl, e4, h4re, h4rs, h4he, h4hs, h4D, bD, nDr, nDh, h4lv, hfl, hcase⟩
      walk_at "rd"
      refine ⟨by show 0 ≤ sizeLine; decide, fun eb heb => ne_empty (SqL.of (get_push heb h4lv)) hfl (SqL.of upd_same) ?_⟩
      have e5 : Same Hb (upd H4 eb (.lst [])) := Same.push e4 heb
      have h5re := get_push (u := .lst []) heb h4re
      have h5he := get_push (u := .lst []) heb h4he
      have h5D := get_push (u := .lst []) heb h4D
      revert e5 h5re h5he h5D
      generalize upd H4 eb (.lst []) = H5
      intro e5 h5re h5he h5D
      walk_at "rd"
      rcases hcase with ⟨hne, hh, rfl⟩ | ⟨rfl, hF, rfl⟩
      · have : lvs.isEmpty = false := by cases lvs with
          | nil => exact absurd rfl hne
          | cons => rfl
        rw [this]
        walk_at "rd"
        refine ⟨_, fun _ _ z => z, ?_⟩
        walk_at "rd"
        have dlt : ∀ i d, ds[i]? = some d → d < n := fun i d h => by have := (hh.1 d (List.mem_of_getElem? h)).1; omega
        have dsl : ds.length ≤ 16 := by
          have := UM.len_le_of (xs := ds) (ys := List.range n) hh.2.1 fun x hx => List.mem_range.mpr (by have := (hh.1 x hx).1; omega)
          rw [List.length_range] at this
          omega
        refine ⟨⟨_, SqL.of h5D⟩, fun C hC => lc_it (walk_list (K := K) (a := D) (xs := dV ds)) (fun i H' => Same H5 H' ∧ H' C = some (.lst ((ds.take i).map fun (d : Nat) => V.int ((2 ^ d : Nat) : Int)))) ⟨Same.new hC, upd_same⟩ (fun i H' _ h => SqL.of (h.1 _ _ h5D)) ?_ ?_⟩
        · rintro i x H6 H7 hi ⟨e6, h6⟩ ⟨rfl, hx⟩
          obtain ⟨d, hd, rfl⟩ := get_map hx
          walk_at "rd"
          refine ⟨⟨Int.natCast_nonneg _, by have := dlt i d hd; omega, by decide⟩, ?_⟩
          walk_at "rd"
          refine ⟨_, h6, ?_, Same.own e6 hC, ?_⟩
          · rw [List.length_map]
            exact take_len_lt (Nat.le_trans dsl (by decide)) (by rw [dV_len] at hi; exact hi)
          · simp only [shl_one]
            rw [upd_same, List.take_add_one, hd, List.map_append]
            rfl
        · rintro H6 ⟨e6, h6⟩
          rw [dV_len, List.take_length] at h6
          walk_at "rd"
          refine ⟨C, ds.map fun (d : Nat) => ((2 ^ d : Nat) : Int), rfl, SqL.of (by rw [List.map_map]; exact h6), ?_⟩
          rw [sum_pow]
          walk_at "rd"
          refine ⟨by show 0 ≤ sizeLine; decide, fun L hL => ?_⟩
          walk_at "rd"
          let pb : Nat → Bool := fun d => UM.blkS rows d kn (UM.maskL ds)
          have hpb : ∀ d, pb d = true ↔ UM.Blk rows l (fun e => e ∈ ds) d := fun d => UM.blkS_iff hk (UM.tb_maskL hh.2.1)
          have nrL : re ≠ L := ne_of_none (e6 _ _ h5re) hL
          have nhL : he ≠ L := ne_of_none (e6 _ _ h5he) hL
          have nDL : D ≠ L := ne_of_none (e6 _ _ h5D) hL
          have bL : Hb L = none := Same.free (e5.trans e6) hL
          refine ⟨⟨_, SqL.of (get_push hL (e6 _ _ h5D))⟩, for_list (K := K) (a := D) (xs := dV ds) (fun i σ H' => ∃ (rs hs : List V) (v6 v7 : Option V), σ = [some (.ref p), some (.int at_), some (.ref D), some (.int t), some (.ref L), some (.int (UM.maskL ds : Nat)), v6, v7] ∧
            Same Hb H' ∧ H' re = some (.lst rs) ∧ rs.length = n ∧ H' he = some (.lst hs) ∧ hs.length = n ∧ H' D = some (.lst (dV ds)) ∧ H' L = some (.lst (dV ((ds.take i).filter pb)))) ⟨rs, hs, _, _, rfl, Same.push (e5.trans e6) hL, get_push hL (e6 _ _ h5re), h4rs, get_push hL (e6 _ _ h5he), h4hs, get_push hL (e6 _ _ h5D), upd_same⟩ (fun i σ H' _ h => by obtain ⟨_, _, _, _, _, _, _, _, _, _, h, _⟩ := h; exact SqL.of h) ?_ ?_⟩
          · rintro i x σ H7 hx ⟨rs, hs, v6, v7, rfl, e7, h7re, h7rs, h7he, h7hs, h7D, h7L⟩
            obtain ⟨d, hd, rfl⟩ := get_map hx
            have hdn := dlt i d hd
            have bp7 := bp.mono e7
            have f1 := bp7.f_rows T
            have f2 := bp7.f_known T
            walk_at "rd"
            refine ⟨rw_, d, kn, UM.maskL ds, xs, rows, rfl, SqL.of (e7 _ _ (s0b _ _ hrw)), (hro.mono s0b).mono e7, fun H8 e8 => ⟨fun hb => ?_, fun hb k => ?_⟩⟩
            · walk_at "rd"
              refine ⟨rs, hs, _, _, rfl, e7.trans e8, e8 _ _ h7re, h7rs, e8 _ _ h7he, h7hs, e8 _ _ h7D, ?_⟩
              rw [filter_take hd, if_neg (by show ¬ UM.blkS rows d kn (UM.maskL ds) = true; rw [hb]; exact Bool.false_ne_true), List.append_nil]
              exact e8 _ _ h7L
            · have e78 := e7.trans e8
              have bp8 := bp.mono e78
              have f1 := bp8.f_reasons T
              walk_at "rd"
              refine ⟨re, rs, d, d, rfl, rfl, e8 _ _ h7re, ixN_nat (by omega), ?_⟩
              have e9 : Same Hb (upd H8 re (.lst (rs.set d (V.int k)))) := Same.own e78 bre
              have f2 := (bp.mono e9).f_heights T
              walk_at "rd"
              refine ⟨he, hs, d, d, rfl, rfl, by rw [upd_ne nrh.symm]; exact e8 _ _ h7he, ixN_nat (by omega), ?_⟩
              walk_at "rd"
              have hL9 : upd (upd H8 re (.lst (rs.set d (V.int k)))) he (.lst (hs.set d (V.int t))) L = some (.lst (dV ((ds.take i).filter pb))) := by rw [upd_ne nhL.symm, upd_ne nrL.symm]; exact e8 _ _ h7L
              refine ⟨.inl ⟨rfl, _, SqL.of hL9⟩, ?_⟩
              walk_at "rd"
              refine ⟨L, _, _, rfl, rfl, hL9, ?_, ?_⟩
              · rw [dV_len]
                exact Nat.lt_of_le_of_lt (List.length_filter_le _ _) (take_len_lt (Nat.le_trans dsl (by decide)) (by have := (List.getElem?_eq_some_iff.mp hd).1; exact this))
              · walk_at "rd"
                refine ⟨_, _, _, _, rfl, Same.own (Same.own e9 bhe) bL, by rw [upd_ne nrL, upd_ne nrh, upd_same], by rw [List.length_set]; exact h7rs, by rw [upd_ne nhL, upd_same], by rw [List.length_set]; exact h7hs, by rw [upd_ne nDL, upd_ne nDh, upd_ne nDr]; exact e8 _ _ h7D, ?_⟩
                rw [filter_take hd, if_pos hb, upd_same]
                unfold dV
                rw [List.map_append]
                rfl
          · rintro σ H7 ⟨rs, hs, v6, v7, rfl, e7, h7re, h7rs, h7he, h7hs, h7D, h7L⟩
            rw [dV_len, List.take_length] at h7L
            walk_at "rd"
            refine ⟨⟨_, SqL.of h7D⟩, fun D2 hD2 => lc_it (walk_list (K := K) (a := D) (xs := dV ds)) (fun i H' => Same H7 H' ∧ H' D2 = some (.lst (dV ((ds.take i).filter fun d => !pb d)))) ⟨Same.new hD2, upd_same⟩ (fun i H' _ h => SqL.of (h.1 _ _ h7D)) ?_ ?_⟩
            · rintro i x H8 H9 hi ⟨e8, h8⟩ ⟨rfl, hx⟩
              obtain ⟨d, hd, rfl⟩ := get_map hx
              have hdm : d ∈ ds := List.mem_of_getElem? hd
              have pd : decide (d ∈ ds.filter pb) = pb d := by
                cases z : pb d with
                | true => exact decide_eq_true (List.mem_filter.mpr ⟨hdm, z⟩)
                | false => exact decide_eq_false fun y => by rw [(List.mem_filter.mp y).2] at z; cases z
              walk_at "rd"
              refine ⟨L, _, rfl, .inl (SqL.of (e8 _ _ h7L)), rfl, flat_dV _, ?_⟩
              rw [inV_dV, pd]
              show ∃ k, _
              refine ⟨_, rfl, ?_⟩
              have ft := filter_take (f := fun d => !pb d) hd
              cases z : pb d with
              | true =>
                rw [z] at ft
                refine ite_ff rfl ?_
                refine ⟨e8, ?_⟩
                rw [ft]
                simpa using h8
              | false =>
                rw [z] at ft
                refine ite_tt rfl ?_
                walk_at "rd"
                refine ⟨_, h8, ?_, Same.own e8 hD2, ?_⟩
                · rw [dV_len]
                  exact Nat.lt_of_le_of_lt (List.length_filter_le _ _) (take_len_lt (Nat.le_trans dsl (by decide)) (by have := (List.getElem?_eq_some_iff.mp hd).1; exact this))
                · rw [upd_same, ft]
                  unfold dV
                  simp
            · rintro H8 ⟨e8, h8⟩
              rw [dV_len, List.take_length] at h8
              walk_at "rd"
              have nn : ∀ {x : Addr} {o : HO}, H7 x = some o → x ≠ D2 := fun h => ne_of_none h hD2
              have key : ∃ m', m' < ds.length + 1 ∧ ((dV (ds.filter pb) ≠ [] ∧ UM.Holds rows l (ds.filter fun d => !pb d) ∧ m' = (ds.filter fun d => !pb d).length + 1) ∨ (dV (ds.filter pb) = [] ∧ UM.Found rows l (ds.filter fun d => !pb d) ∧ m' = 0)) := by
                by_cases z : ds.filter pb = []
                · exact ⟨0, Nat.succ_pos _, .inr ⟨by rw [z]; rfl, UM.found_of hh hpb z, rfl⟩⟩
                · refine ⟨_, ?_, .inl ⟨fun y => z (List.map_eq_nil_iff.mp y), UM.holds_step hh hpb, rfl⟩⟩
                  obtain ⟨e, he⟩ := List.exists_mem_of_ne_nil _ z
                  have hm := List.mem_filter.mp he
                  have : (ds.filter fun d => !pb d).length < ds.length := by
                    apply Classical.byContradiction
                    intro no
                    have el : (ds.filter fun d => !pb d).length = ds.length := Nat.le_antisymm (List.length_filter_le _ _) (Nat.le_of_not_lt no)
                    have := List.length_filter_eq_length_iff.mp el e hm.1
                    rw [hm.2] at this
                    cases this
                  omega
              obtain ⟨m', hm1, hm2⟩ := key
              exact ⟨m', hm1, D2, L, ds.filter (fun d => !pb d), dV (ds.filter pb), t + 1, rs, hs, _, _, _, rfl, e7.trans e8, e8 _ _ h7re, h7rs, e8 _ _ h7he, h7hs, h8, Same.free e7 hD2, (nn h7re).symm, (nn h7he).symm, e8 _ _ h7L, dV_flat, hm2⟩
      · walk_at "rd"
        have nlD : la ≠ D := ne_of_none bla bD
        have npD : p ≠ D := by obtain ⟨_, _, z⟩ := bp.ins; exact ne_of_none z bD
        have D0 : H0 D = none := Same.free s0b bD
        have npl : p ≠ la := by obtain ⟨_, _, z⟩ := bp.ins; exact ne_of z bla (by intro z; cases z)
        have dlt : ∀ i d, ds[i]? = some d → d < n := fun i d h => by have := (hF.here d (List.mem_of_getElem? h)).1; omega
        refine ⟨⟨_, SqL.of h5D⟩, for_list (K := K) (a := D) (xs := dV ds) (fun i σ H' => ∃ (kn' : Nat) (v6 : Option V), σ = [some (.ref p), some (.int at_), some (.ref D), some (.int t), some (.ref lv), v5, v6, v7] ∧ Same H0 H' ∧ LifAt0 K H' p rw_ st la re he kn' ∧ (∀ e, kn'.testBit e = (UM.lay (UM.setAll l (ds.take i) at_) e).isSome) ∧
          H' la = some (.lst ((UM.setAll l (ds.take i) at_).map layV)) ∧ H' re = some (.lst rs) ∧ H' he = some (.lst hs) ∧ H' D = some (.lst (dV ds))) ⟨kn, v6, rfl, s0b.trans e5, bp.mono e5, hk, e5 _ _ bla, h5re, h5he, h5D⟩ (fun i σ H' _ h => by obtain ⟨_, _, _, _, _, _, _, _, _, h⟩ := h; exact SqL.of h) ?_ ?_⟩
        · rintro i x σ H6 hx ⟨kn', v6, rfl, s6, p6, hk6, h6la, h6re, h6he, h6D⟩
          obtain ⟨d, hd, rfl⟩ := get_map hx
          have hdn := dlt i d hd
          have f1 := p6.f_layers T
          walk_at "rd"
          have sl : (UM.setAll l (ds.take i) at_).length = n := by rw [UM.setAll_length]; exact hln
          refine ⟨la, _, d, d, rfl, rfl, h6la, ixN_nat (by rw [List.length_map, sl]; exact hdn), ?_⟩
          have p7 : LifAt0 K (upd H6 la (.lst (((UM.setAll l (ds.take i) at_).map layV).set d (V.int at_)))) p rw_ st la re he kn' := by
            obtain ⟨dx, fs, z, zz⟩ := p6
            exact ⟨dx, fs, by rw [upd_ne npl]; exact z, zz⟩
          have f2 := p7.f_known T
          obtain ⟨dx, fs, hpe, hfl2, p8⟩ := p7.known (kn' ||| 2 ^ d)
          walk_at "rd"
          refine ⟨⟨Int.natCast_nonneg _, by omega, by decide⟩, ?_⟩
          walk_at "rd"
          simp only [shl_one, bit_or]
          refine ⟨p, _, dx, fs, rfl, hpe, c_Lifting, n_known, Nat.lt_of_le_of_lt hfl2 (by decide), ?_⟩
          refine ⟨_, _, rfl, Same.own (Same.own s6 la0) p0, p8, fun e => ?_, ?_, ?_, ?_, ?_⟩
          · rw [tb_or_pow, hk6, setAll_take hd, UM.lay_set (by rw [sl]; exact hdn)]
            by_cases z : e = d
            · subst z; rw [if_pos rfl]; simp
            · rw [if_neg z, decide_eq_false (Ne.symm z), Bool.or_false]
          · rw [upd_ne npl.symm, upd_same, setAll_take hd, List.map_set]
            rfl
          · rw [upd_ne npr.symm, upd_ne nlr.symm]; exact h6re
          · rw [upd_ne nph.symm, upd_ne nlh.symm]; exact h6he
          · rw [upd_ne npD.symm, upd_ne nlD.symm]; exact h6D
        · rintro σ H6 ⟨kn', v6, rfl, s6, p6, hk6, h6la, h6re, h6he, h6D⟩
          rw [dV_len, List.take_length] at h6la hk6
          walk_at "rd"
          exact q H6 D ds D0 h6D ⟨rw_, st, la, re, he, kn', xs, rs, hs, s6, p0, la0, re0, he0, nlr, nlh, nrh, p6, hk6, h6la, h6re, h6he, h4rs, h4hs, by rw [UM.setAll_length]; exact hln, hrw, hro, hst⟩ hF
end
end U
set_option maxHeartbeats 4100000
namespace U
open PySem L2 He
local macro_rules | `(tactic| walk_at "same") => `(tactic| first | (with_reducible assumption) | exact Same.refl _ | (refine Same.push ?_ (by assumption); walk_at "same") | (refine Same.own ?_ (by assumption); walk_at "same") | (refine Same.trans ?_ (by with_reducible assumption); walk_at "same"))
local macro_rules | `(tactic| walk_at "get") => `(tactic| first | assumption | exact upd_same | (refine get_push (by assumption) ?_; walk_at "get") | (refine get_ne (by assumption) ?_; walk_at "get") | (refine get_ne' (by assumption) ?_; walk_at "get") | (refine Same.get ?_ (by assumption); walk_at "same"))
local macro_rules | `(tactic| walk_at "has") => `(tactic| first | assumption | (refine Has.mono ?_ (by assumption); walk_at "same"))
local macro_rules | `(tactic| walk_at "sql") => `(tactic| first | assumption | exact SqL.of upd_same | exact SqL.of (by assumption) | (refine Same.seq ?_ (by assumption); walk_at "same") | (refine SqL.of ?_; walk_at "get"))
local macro_rules | `(tactic| walk_at "sqt") => `(tactic| first | assumption | exact SqT.of upd_same | exact SqT.of (by assumption) | (refine Same.tup ?_ (by assumption); walk_at "same") | (refine SqT.of ?_; walk_at "get"))
local macro_rules | `(tactic| walk_at "r1") => `(tactic| first | ((with_reducible refine ite_tt ?_ ?_); (focus exact rfl)) | ((with_reducible refine ite_ff ?_ ?_); (focus exact rfl)) | refine ⟨_, rfl, ?_⟩ | refine ⟨_, _, rfl, rfl, ?_⟩ | (refine ⟨rfl, ?_⟩) | refine ⟨(Int.natCast_nonneg _ : (0 : Int) ≤ _), ?_⟩ | refine ⟨_, _, rfl, ?_⟩ | refine ⟨_, _, _, rfl, ?_⟩ | (refine Has.ans (by walk_at "has") ?_) | refine ⟨_, _, _, _, rfl, rfl, (by walk_at "sql"), rfl, ?_⟩ | refine ⟨_, _, rfl, .inl (by walk_at "sql"), ?_⟩ | refine ⟨_, _, rfl, .inr (by walk_at "sqt"), ?_⟩ | refine ⟨_, _, _, _, rfl, rfl, (by walk_at "sqt"), rfl, ?_⟩ | refine ⟨_, _, rfl, (by walk_at "sqt"), rfl, ?_⟩ | refine ⟨_, _, _, _, rfl, (by walk_at "get"), (by assumption), (by assumption), (by walk_at "len"), ?_⟩ | refine ⟨_, _, _, _, _, rfl, (by walk_at "get"), (by assumption), (by assumption), (by walk_at "lk"), ?_⟩)
local macro_rules | `(tactic| walk_at "rd") => `(tactic| repeat walk_at "r1")
local macro_rules | `(tactic| walk_at "lk") => `(tactic| first | (with_reducible exact lk_hit) | (refine lk_miss (by decide +kernel) ?_; walk_at "lk") | rfl)
local macro_rules | `(tactic| walk_at "len") => `(tactic| (refine Nat.lt_of_le_of_lt (m := 60) ?_ (by decide); (repeat (refine len_put ?_)); exact Nat.zero_le _))
local macro_rules | `(tactic| walk_at "len9") => `(tactic| (refine Nat.le_trans (m := 60) ?_ (by decide); (repeat (refine len_put ?_)); exact Nat.zero_le _))
local macro_rules | `(tactic| walk_at "own") => `(tactic| first | assumption | (refine Same.own ?_ (by assumption); walk_at "own"))

section
variable {P : Program} {w : World} {base : Heap}
variable {K : PySem.W.Frag} {mg : Str → Option Value}
def spRun (K : PySem.W.Frag) : Sp := fun vs H Q _ => ∃ (H0 : Hp) (p : Addr) (n : Nat) (rows : List UM.Row), vs = [.ref p] ∧ LifSt K H0 H p n rows (List.replicate n none) ∧ 0 < n ∧ n ≤ 16 ∧ (∀ r ∈ rows, r.2.2 = 0 ∨ r.2.2 = 1) ∧
  ∀ H' l, UM.Done rows n l → LifSt K H0 H' p n rows l → Q .non H'
theorem LifSt.mono {H0 H H' : Hp} {p : Addr} {n : Nat} {rows : List UM.Row} {l : UM.Lay} (e : Same H H') (h : LifSt K H0 H p n rows l) : LifSt K H0 H' p n rows l := by
  obtain ⟨rw_, st, la, re, he, kn, xs, rs, hs, s0, p0, la0, re0, he0, nlr, nlh, nrh, hp, hk, hla, hre, hhe, h⟩ := h
  exact ⟨rw_, st, la, re, he, kn, xs, rs, hs, s0.trans e, p0, la0, re0, he0, nlr, nlh, nrh, hp.mono e, hk, e _ _ hla, e _ _ hre, e _ _ hhe, h⟩
theorem LifSt.len {H0 H : Hp} {p : Addr} {n : Nat} {rows : List UM.Row} {l : UM.Lay} (h : LifSt K H0 H p n rows l) : l.length = n := by
  obtain ⟨rw_, st, la, re, he, kn, xs, rs, hs, s0, p0, la0, re0, he0, nlr, nlh, nrh, hp, hk, hla, hre, hhe, hrs, hhs, hln, _⟩ := h
  exact hln
theorem sc_Lifting_run : FnScope ["self", "at", "above", "day"] ["self"] (defScope (inClass (top 55) 3)) := ⟨rfl, rfl, rfl, by decide +kernel, rfl, by decide +kernel, by decide +kernel⟩
theorem ok_Lifting_run (T : Txt K mg) : Ok P w K mg base 3 (ma K (ga K "Lifting") "run") ["self"] (spRun K) := by
  obtain ⟨fd, F⟩ := T.f_Lifting_run
  obtain ⟨_, G_Lifting_settle, b_Lifting_settle, k_Lifting_settle⟩ := ok_Lifting_settle (P := P) (w := w) (base := base) T
  obtain ⟨_, G_Lifting_open_days, b_Lifting_open_days, k_Lifting_open_days⟩ := ok_Lifting_open_days (P := P) (w := w) (base := base) T
  refine ⟨_, F.ok sc_Lifting_run (fun vs H Q E h => ?_) (fun cdv A outer s H vs Q E hr h => ?_), F.binds fun _ _ _ _ _ _ us hl => match us, hl with | [_], _ => rfl, F.kp⟩
  · obtain ⟨H0, p, n, rows, rfl, _⟩ := h
    rfl
  · obtain ⟨H0, p, n, rows, rfl, hL, hn0, hn, hst, q⟩ := h
    refine ⟨_, (pss_cons (ps_set (i := 1) sc_Lifting_run.nd rfl (Or.inr rfl) (pe_callB (cr_min rfl) (by rfl) T.b_min (by decide +kernel) (pa_cons (pe_fld (pv 0) rfl) pa_nil))) (pss_one (ps_while PassesOwn.never (pt_cmpR op_notN (pv 1) pe_non (nomark _)) (pss_one (ps_if (pt_cmpR (op_neD hr.units) (pe_meth (pv 0) T.c_Lifting T.m_Lifting_settle G_Lifting_settle (hr.mono (by decide)) b_Lifting_settle .nil pass0 (pa_cons (pv 1) pa_nil)) (pe_lst pa_nil) (nomark _)) (pss_one (ps_set (i := 1) sc_Lifting_run.nd rfl (Or.inr rfl) (pe_op op_add (pv 1) pe_int))) (pss_cons (ps_setLc (i := 2) (own := [("day", 3)]) rfl sc_Lifting_run.nd rfl rfl (sw_true rfl rfl rfl (by decide +kernel)) (pi_list (pe_meth0 (pv 0) T.c_Lifting T.m_Lifting_open_days G_Lifting_open_days (hr.mono (by decide)) b_Lifting_open_days .nil pass0)) (blkOk_by (own := [("day", 3)]) (N := ["self", "at", "above", "day"]) (sc := defScope (inClass (top 55) 3)) (by decide +kernel)) (fun _ _ _ _ _ => (pg_name (i := 3) sc_Lifting_run.nd rfl (Or.inl rfl))) (fun _ _ _ _ _ => pts_one (pt_cmpR op_gt (kix (K := K) (kfld (K := K) (pv 0) rfl rfl) (pv 3) (fun _ _ => rfl) rfl) (pv 1) (nomark _))) (fun _ _ _ _ _ => (kix (K := K) (kfld (K := K) (pv 0) rfl rfl) (pv 3) (fun _ _ => rfl) rfl))) (pss_one (ps_set (i := 1) sc_Lifting_run.nd rfl (Or.inr rfl) (pe_callBK (cr_minD rfl hr.units) (by rfl) T.b_min (by decide +kernel) (pa_cons (pv 2) pa_nil) (pk_cons pe_non pk_nil)))))))))), ?_⟩
    have hL1 := hL
    obtain ⟨rw_, st, la, re, he, kn, xs, rs, hs, s0, p0, la0, re0, he0, nlr, nlh, nrh, hp, hk, hla, hre, hhe, hrs, hhs, hln, hrw, hro, hstt⟩ := hL1
    have f1 := hp.f_start T
    walk_at "rd"
    refine ⟨st, List.replicate n 0, rfl, by rw [List.map_replicate]; exact s0.seq hstt, by rw [List.length_replicate]; exact hn0, fun m hm _ => ?_⟩
    rw [(List.mem_replicate.mp hm).2]
    walk_at "rd"
    refine ⟨fun m σ H' => (∃ (a : Nat) (l : UM.Lay) (v2 v3 : Option V), σ = [some (.ref p), some (.int a), v2, v3] ∧ LifSt K H0 H' p n rows l ∧ UM.Run rows l a ∧ m = n + 1 - a) ∨ (∃ (l : UM.Lay) (v2 v3 : Option V), σ = [some (.ref p), some .non, v2, v3] ∧ LifSt K H0 H' p n rows l ∧ UM.Done rows n l ∧ m = 0),
      ⟨_, .inl ⟨0, _, none, none, rfl, hL, UM.run_start rows n, rfl⟩⟩, ?_⟩
    rintro m σ H1 (⟨a, l, v2, v3, rfl, h1, R, rfl⟩ | ⟨l, v2, v3, rfl, h1, hd, rfl⟩)
    rotate_left
    · walk_at "rd"
      exact q _ _ hd h1
    · walk_at "rd"
      refine ⟨_, fun _ _ z => z, ?_⟩
      have hln := h1.len
      have hp1 : ∃ dx fs, H1 p = some (.ins (ga K "Lifting") dx fs) ∧ fs.lookup ("settle" : Str) = none := by
        obtain ⟨rw_, st, la, re, he, kn, xs, rs, hs, s0, p0, la0, re0, he0, nlr, nlh, nrh, hp, _⟩ := h1
        exact hp.m_settle
      obtain ⟨dx, fs, hpe, hlk⟩ := hp1
      walk_at "rd"
      refine ⟨p, dx, fs, rfl, hpe, hlk, ?_⟩
      walk_at "rd"
      refine ⟨H0, p, a, n, rows, l, rfl, h1, hn, fun H2 r ds hr0 hr2 h2 F => ?_⟩
      walk_at "rd"
      refine ⟨by show 0 ≤ sizeLine; decide, fun eb heb => ne_empty (SqL.of (get_push heb hr2)) dV_flat (SqL.of upd_same) ?_⟩
      have h3 : LifSt K H0 (upd H2 eb (.lst [])) p n rows (UM.setAll l ds a) := h2.mono (Same.new heb)
      revert h3
      generalize upd H2 eb (.lst []) = H3
      intro h3
      have cnt := R.count
      by_cases hds : ds = []
      · subst hds
        walk_at "rd"
        have h4 : LifSt K H0 H3 p n rows l := h3
        obtain ⟨rw_, st, la, re, he, kn, xs, rs, hs, s0, p0, la0, re0, he0, nlr, nlh, nrh, hp, hk, hla, hre, hhe, hrs, hhs, hln, hrw, hro, hstt⟩ := h3
        obtain ⟨dx, fs, hpe, hlk⟩ := hp.m_open_days
        have fst := hp.f_start T
        refine ⟨p, dx, fs, rfl, hpe, hlk, ?_⟩
        refine ⟨p, rw_, st, la, re, he, kn, l, rfl, hp, hla, by rw [h4.len]; exact hn, fun H5 R5 e5 hR hR5 => ⟨R5, rfl, ⟨_, SqL.of hR5⟩, fun D hD => lc_it (walk_list (K := K) (a := R5) (xs := dV (UM.openL l))) (fun i H' => Same H5 H' ∧ H' D = some (.lst [])) ⟨Same.new hD, upd_same⟩ (fun i H' _ h => SqL.of (h.1 _ _ hR5)) ?_ ?_⟩⟩
        · rintro i x H6 H7 hi ⟨e6, h6⟩ ⟨rfl, hx⟩
          obtain ⟨d, hd, rfl⟩ := get_map hx
          have hdn : d < n := by have := (UM.mem_openL.mp (List.mem_of_getElem? hd)).1; rw [h4.len] at this; exact this
          have fst6 := (fst.mono e5).mono e6
          walk_at "rd"
          refine ⟨_, _, _, _, rfl, rfl, Same.seq ((s0.trans e5).trans e6) hstt, atI_nat (v := V.int 0) (by rw [List.getElem?_replicate, if_pos hdn]), ?_⟩
          walk_at "rd"
          exact ⟨e6, h6⟩
        · rintro H6 ⟨e6, h6⟩
          walk_at "rd"
          refine ⟨SqL.of h6, ?_⟩
          walk_at "rd"
          refine ⟨0, by omega, .inr ⟨l, _, _, rfl, (h4.mono e5).mono e6, UM.done_of R F h4.len, rfl⟩⟩
      · have : (dV ds).isEmpty = false := by
          cases ds with
          | nil => exact absurd rfl hds
          | cons => rfl
        rw [this]
        walk_at "rd"
        exact ⟨n + 1 - (a + 1), by omega, .inl ⟨a + 1, _, _, _, rfl, h3, UM.run_step R F hds hst, rfl⟩⟩
end
end U
set_option maxHeartbeats 4100000
namespace U
open PySem L2 He
local macro_rules | `(tactic| walk_at "same") => `(tactic| first | (with_reducible assumption) | exact Same.refl _ | (refine Same.push ?_ (by assumption); walk_at "same") | (refine Same.own ?_ (by assumption); walk_at "same") | (refine Same.trans ?_ (by with_reducible assumption); walk_at "same"))
local macro_rules | `(tactic| walk_at "get") => `(tactic| first | assumption | exact upd_same | (refine get_push (by assumption) ?_; walk_at "get") | (refine get_ne (by assumption) ?_; walk_at "get") | (refine get_ne' (by assumption) ?_; walk_at "get") | (refine Same.get ?_ (by assumption); walk_at "same"))
local macro_rules | `(tactic| walk_at "has") => `(tactic| first | assumption | (refine Has.mono ?_ (by assumption); walk_at "same"))
local macro_rules | `(tactic| walk_at "sql") => `(tactic| first | assumption | exact SqL.of upd_same | exact SqL.of (by assumption) | (refine Same.seq ?_ (by assumption); walk_at "same") | (refine SqL.of ?_; walk_at "get"))
local macro_rules | `(tactic| walk_at "sqt") => `(tactic| first | assumption | exact SqT.of upd_same | exact SqT.of (by assumption) | (refine Same.tup ?_ (by assumption); walk_at "same") | (refine SqT.of ?_; walk_at "get"))
local macro_rules | `(tactic| walk_at "r1") => `(tactic| first | ((with_reducible refine ite_tt ?_ ?_); (focus exact rfl)) | ((with_reducible refine ite_ff ?_ ?_); (focus exact rfl)) | refine ⟨_, rfl, ?_⟩ | refine ⟨_, _, rfl, rfl, ?_⟩ | (refine ⟨rfl, ?_⟩) | refine ⟨(Int.natCast_nonneg _ : (0 : Int) ≤ _), ?_⟩ | refine ⟨_, _, rfl, ?_⟩ | refine ⟨_, _, _, rfl, ?_⟩ | (refine Has.ans (by walk_at "has") ?_) | refine ⟨_, _, _, _, rfl, rfl, (by walk_at "sql"), rfl, ?_⟩ | refine ⟨_, _, rfl, .inl (by walk_at "sql"), ?_⟩ | refine ⟨_, _, rfl, .inr (by walk_at "sqt"), ?_⟩ | refine ⟨_, _, _, _, rfl, rfl, (by walk_at "sqt"), rfl, ?_⟩ | refine ⟨_, _, rfl, (by walk_at "sqt"), rfl, ?_⟩ | refine ⟨_, _, _, _, rfl, (by walk_at "get"), (by assumption), (by assumption), (by walk_at "len"), ?_⟩ | refine ⟨_, _, _, _, _, rfl, (by walk_at "get"), (by assumption), (by assumption), (by walk_at "lk"), ?_⟩)
local macro_rules | `(tactic| walk_at "rd") => `(tactic| repeat walk_at "r1")
local macro_rules | `(tactic| walk_at "lk") => `(tactic| first | (with_reducible exact lk_hit) | (refine lk_miss (by decide +kernel) ?_; walk_at "lk") | rfl)
local macro_rules | `(tactic| walk_at "len") => `(tactic| (refine Nat.lt_of_le_of_lt (m := 60) ?_ (by decide); (repeat (refine len_put ?_)); exact Nat.zero_le _))
local macro_rules | `(tactic| walk_at "len9") => `(tactic| (refine Nat.le_trans (m := 60) ?_ (by decide); (repeat (refine len_put ?_)); exact Nat.zero_le _))
local macro_rules | `(tactic| walk_at "own") => `(tactic| first | assumption | (refine Same.own ?_ (by assumption); walk_at "own"))

section
variable {P : Program} {w : World} {base : Heap}
variable {K : PySem.W.Frag} {mg : Str → Option Value}
def spLiftingOf (K : PySem.W.Frag) : Sp := fun vs H Q _ => ∃ (sl st : Addr) (n : Nat) (xs : List V) (rows : List UM.Row), vs = [.ref sl, .ref st] ∧ SqL K H sl xs ∧ SRows K H xs rows ∧ SqL K H st (List.replicate n (.int 0)) ∧ 0 < n ∧ n ≤ 16 ∧ xs.length ≤ 20 ∧
  ∀ H0' H' p l, Same H H0' → UM.Done rows n l → LifSt K H0' H' p n rows l → Q (.ref p) H'
theorem SRows.steps {H : Hp} {xs : List V} {rows : List UM.Row} (h : SRows K H xs rows) : ∀ r ∈ rows, r.2.2 = 0 ∨ r.2.2 = 1 := fun r hr => by
  obtain ⟨i, hi, e⟩ := List.getElem_of_mem hr
  have hx : xs[i]? = some (xs[i]'(by rw [h.1]; exact hi)) := List.getElem?_eq_getElem _
  obtain ⟨a, c, b, t, u, h1, _⟩ := h.2 i _ hx
  rw [List.getElem?_eq_getElem hi, e] at h1
  cases h1
  cases u
  · exact .inl rfl
  · exact .inr rfl
theorem sc_lifting_of : FnScope ["sayings", "start", "lifting"] ["sayings", "start"] (defScope (top 56)) := ⟨rfl, rfl, rfl, by decide +kernel, rfl, by decide +kernel, by decide +kernel⟩
theorem ok_lifting_of (T : Txt K mg) : Ok P w K mg base 4 (ga K "lifting_of") ["sayings", "start"] (spLiftingOf K) := by
  obtain ⟨fd, F⟩ := T.d_lifting_of
  obtain ⟨_, G_Lifting_init, b_Lifting_init, k_Lifting_init⟩ := ok_Lifting_init (P := P) (w := w) (base := base) T
  obtain ⟨_, G_Lifting_run, b_Lifting_run, k_Lifting_run⟩ := ok_Lifting_run (P := P) (w := w) (base := base) T
  refine ⟨_, F.ok sc_lifting_of (fun vs H Q E h => ?_) (fun cdv A outer s H vs Q E hr h => ?_), F.binds fun _ _ _ _ _ _ us hl => match us, hl with | [_, _], _ => rfl, F.kp⟩
  · obtain ⟨sl, st, n, xs, rows, rfl, _⟩ := h
    rfl
  · obtain ⟨sl, st, n, xs, rows, rfl, hsl, hsr, hst, hn0, hn, hx, q⟩ := h
    refine ⟨_, (pss_cons (ps_set (i := 2) sc_lifting_of.nd rfl (Or.inl rfl) (pe_make T.mk_Lifting G_Lifting_init (hr.mono (by decide)) rfl T.g_Lifting b_Lifting_init .nil pass0 (pa_cons (pv 0) (pa_cons (pv 1) pa_nil))))
      (pss_cons (ps_expr (pe_meth0 (pv 2) T.c_Lifting T.m_Lifting_run G_Lifting_run (hr.mono (by decide)) b_Lifting_run .nil pass0)) (pss_one (ps_ret (pv 2))))), ?_⟩
    walk_at "rd"
    intro x dx nx ndx nex
    refine ⟨H, x, dx, sl, st, n, xs, rows, rfl, upd_same, Same.mk nx ndx, nx, hsl, hsr, hst, hn, hx, fun H0' H' s0 hL => ⟨rfl, ?_⟩⟩
    have hp1 : ∃ dx fs, H' x = some (.ins (ga K "Lifting") dx fs) ∧ fs.lookup ("run" : Str) = none := by
      obtain ⟨rw_, st, la, re, he, kn, xs, rs, hs, s0, p0, la0, re0, he0, nlr, nlh, nrh, hp, _⟩ := hL
      exact hp.m_run
    obtain ⟨dx, fs, hpe, hlk⟩ := hp1
    walk_at "rd"
    refine ⟨x, dx, fs, rfl, hpe, hlk, ?_⟩
    refine ⟨H0', x, n, rows, rfl, hL, hn0, hn, hsr.steps, fun H2 l hd h2 => ?_⟩
    walk_at "rd"
    exact q H0' H2 x l s0 hd h2
/-- a book of usually sayings -/
def BookAt (K : PySem.W.Frag) (H : Hp) (b : Addr) (n : Nat) (xs : List V) (ps : List UM.P) : Prop := ∃ m t, BookAt0 K H b m t ∧ MarksAt K H m n ∧ SqT K H t xs ∧ SaysOf K H n xs ps
theorem BookAt.mono {H H' : Hp} {b : Addr} {n : Nat} {xs : List V} {ps : List UM.P} (e : Same H H') (h : BookAt K H b n xs ps) : BookAt K H' b n xs ps := by
  obtain ⟨m, t, h1, h2, h3, h4⟩ := h
  exact ⟨m, t, h1.mono e, h2.mono e, Same.tup e h3, h4.mono e⟩
/-- sayings with their rows, in n days -/
def SRowsN (K : PySem.W.Frag) (H : Hp) (n : Nat) (xs : List V) (rows : List UM.Row) : Prop := xs.length = rows.length ∧ ∀ (i : Nat) v, xs[i]? = some v → ∃ (a : Addr) (c b t : Nat) (u : Bool), rows[i]? = some ((if u = true then c else b), (if u = true then b else c), (if u = true then 1 else 0)) ∧ v = .ref a ∧ SayAt K H a c b t u ∧ SayP n c b t
theorem SRowsN.mono {H H' : Hp} {n : Nat} {xs : List V} {rows : List UM.Row} (e : Same H H') (h : SRowsN K H n xs rows) : SRowsN K H' n xs rows :=
  ⟨h.1, fun i v hv => let ⟨a, c, b, t, u, h1, h2, h3, h4⟩ := h.2 i v hv; ⟨a, c, b, t, u, h1, h2, h3.mono e, h4⟩⟩
theorem SRowsN.weak {H : Hp} {n : Nat} {xs : List V} {rows : List UM.Row} (h : SRowsN K H n xs rows) : SRows K H xs rows :=
  ⟨h.1, fun i v hv => let ⟨a, c, b, t, u, h1, h2, h3, _⟩ := h.2 i v hv; ⟨a, c, b, t, u, h1, h2, h3⟩⟩
theorem SRowsN.of {H : Hp} {n : Nat} {xs : List V} {ps : List UM.P} (h : SaysOf K H n xs ps) : SRowsN K H n xs (UM.rowsU ps) :=
  ⟨by rw [h.1]; unfold UM.rowsU; rw [List.length_map], fun i v hv => let ⟨p, a, t, h1, h2, h3, h4⟩ := h.2 i v hv; ⟨a, p.1, p.2, t, true, by unfold UM.rowsU; rw [List.getElem?_map, h1]; rfl, h2, h3, h4⟩⟩
theorem SRowsN.one {H : Hp} {n : Nat} {a : Addr} {c b t : Nat} {u : Bool} (h : SayAt K H a c b t u) (hp : SayP n c b t) : SRowsN K H n [.ref a] [((if u = true then c else b), (if u = true then b else c), (if u = true then 1 else 0))] :=
  ⟨rfl, fun i v hv => by
    cases i with
    | zero => cases hv; exact ⟨a, c, b, t, u, rfl, rfl, h, hp⟩
    | succ i => simp at hv⟩
theorem SRows.append {H : Hp} {xs ys : List V} {r1 r2 : List UM.Row} (h1 : SRows K H xs r1) (h2 : SRows K H ys r2) : SRows K H (xs ++ ys) (r1 ++ r2) := by
  refine ⟨by rw [List.length_append, List.length_append, h1.1, h2.1], fun i v hv => ?_⟩
  by_cases c : i < xs.length
  · rw [List.getElem?_append_left c] at hv
    rw [List.getElem?_append_left (by rw [← h1.1]; exact c)]
    exact h1.2 i v hv
  · rw [List.getElem?_append_right (by omega)] at hv
    rw [List.getElem?_append_right (by rw [← h1.1]; omega), ← h1.1]
    exact h2.2 _ v hv
theorem shr_zero {m n : Nat} (h : m < 2 ^ n) : decide (V.int ((m : Int) / 2 ^ (n : Int).toNat) = V.int 0) = true := by
  have : ((m : Int) / 2 ^ (n : Int).toNat) = ((m / 2 ^ n : Nat) : Int) := by simp
  rw [this, Nat.div_eq_of_lt h]
  rfl
def spAll (K : PySem.W.Frag) : Sp := fun vs H Q _ => ∃ (b fu : Addr) (n : Nat) (xs ys : List V) (ps : List UM.P) (rws : List UM.Row), vs = [.ref b, .ref fu] ∧ BookAt K H b n xs ps ∧ SqT K H fu ys ∧ SRowsN K H n ys rws ∧ n ≤ 16 ∧ xs.length ≤ 12 ∧ ys.length ≤ 1 ∧
  ∀ H' r, Same H H' → H' r = some (.lst (xs ++ ys)) → Q (.ref r) H'
theorem sc_all_sayings : FnScope ["book", "further", "saying"] ["book", "further"] (defScope (top 53)) := ⟨rfl, rfl, rfl, by decide +kernel, rfl, by decide +kernel, by decide +kernel⟩
theorem ok_all_sayings (T : Txt K mg) : Ok P w K mg base 1 (ga K "all_sayings") ["book", "further"] (spAll K) := by
  obtain ⟨fd, F⟩ := T.d_all_sayings
  refine ⟨_, F.ok sc_all_sayings (fun vs H Q E h => ?_) (fun cdv A outer s H vs Q E hr h => ?_), F.binds fun _ _ _ _ _ _ us hl => match us, hl with | [_, _], _ => rfl, F.kp⟩
  · obtain ⟨b, fu, n, xs, ys, ps, rws, rfl, _⟩ := h
    rfl
  · obtain ⟨b, fu, n, xs, ys, ps, rws, rfl, ⟨m, t, hb0, hm, ht, hs⟩, hfu, hr2, hn, hx, hy, q⟩ := h
    refine ⟨_, (pss_cons (ps_for PassesOwn.never rfl (pi_tup (pv 1)) (pg_name (i := 2) sc_all_sayings.nd rfl (Or.inl rfl)) (pss_one (ps_if (pt_cmpR op_ne (pe_op op_shr (pe_op op_or (pe_fld (pv 2) rfl) (pe_fld (pv 2) rfl)) (pe_fld (pe_fld (pv 0) rfl) rfl)) pe_int (nomark _)) (pss_one ps_never) pss_nil))) (pss_one (ps_ret (pe_op op_cat (pe_callTy call_list_of (by rfl) T.b_list (by decide +kernel) (pa_cons (pe_fld (pv 0) rfl) pa_nil)) (pe_callTy call_list_of (by rfl) T.b_list (by decide +kernel) (pa_cons (pv 1) pa_nil)))))), ?_⟩
    have f1 := hb0.f_marks T; have f2 := hm.f_days T; have f3 := hb0.f_sayings T
    walk_at "rd"
    refine ⟨⟨_, hfu⟩, for_it (walk_tup (K := K) (a := fu) (xs := ys)) (fun i σ H' => ∃ v, H' = H ∧ σ = [some (.ref b), some (.ref fu), v]) ⟨none, rfl, rfl⟩ (fun i σ H' _ h => by obtain ⟨v, rfl, _⟩ := h; exact hfu) ?_ ?_⟩
    · rintro i x σ H1 H2 hi ⟨v, rfl, rfl⟩ ⟨rfl, hx⟩
      obtain ⟨a, c, b', t', u, h1, rfl, h3, h4⟩ := hr2.2 i x hx
      have g1 := h3.f_where T; have g2 := h3.f_then T
      walk_at "rd"
      simp only [bit_or]
      rw [shr_zero (Nat.or_lt_two_pow h4.w1 h4.t1)]
      walk_at "rd"
      exact ⟨_, rfl, rfl⟩
    · rintro σ H1 ⟨v, rfl, rfl⟩
      walk_at "rd"
      intro l1 hl1
      walk_at "rd"
      intro l2 hl2
      have n12 : l1 ≠ l2 := ne_of_none upd_same hl2
      refine ⟨l1, l2, xs, ys, rfl, rfl, by rw [upd_ne n12]; exact upd_same, upd_same, Nat.le_trans (by omega : xs.length + ys.length ≤ 13) (by decide), fun r hr => ?_⟩
      exact q _ r (Same.push (Same.push (Same.new hl1) hl2) hr) upd_same
end
end U
set_option maxHeartbeats 4100000
namespace U
open PySem L2 He
local macro_rules | `(tactic| walk_at "same") => `(tactic| first | (with_reducible assumption) | exact Same.refl _ | (refine Same.push ?_ (by assumption); walk_at "same") | (refine Same.own ?_ (by assumption); walk_at "same") | (refine Same.trans ?_ (by with_reducible assumption); walk_at "same"))
local macro_rules | `(tactic| walk_at "get") => `(tactic| first | assumption | exact upd_same | (refine get_push (by assumption) ?_; walk_at "get") | (refine get_ne (by assumption) ?_; walk_at "get") | (refine get_ne' (by assumption) ?_; walk_at "get") | (refine Same.get ?_ (by assumption); walk_at "same"))
local macro_rules | `(tactic| walk_at "has") => `(tactic| first | assumption | (refine Has.mono ?_ (by assumption); walk_at "same"))
local macro_rules | `(tactic| walk_at "sql") => `(tactic| first | assumption | exact SqL.of upd_same | exact SqL.of (by assumption) | (refine Same.seq ?_ (by assumption); walk_at "same") | (refine SqL.of ?_; walk_at "get"))
local macro_rules | `(tactic| walk_at "sqt") => `(tactic| first | assumption | exact SqT.of upd_same | exact SqT.of (by assumption) | (refine Same.tup ?_ (by assumption); walk_at "same") | (refine SqT.of ?_; walk_at "get"))
local macro_rules | `(tactic| walk_at "r1") => `(tactic| first | ((with_reducible refine ite_tt ?_ ?_); (focus exact rfl)) | ((with_reducible refine ite_ff ?_ ?_); (focus exact rfl)) | refine ⟨_, rfl, ?_⟩ | refine ⟨_, _, rfl, rfl, ?_⟩ | (refine ⟨rfl, ?_⟩) | refine ⟨(Int.natCast_nonneg _ : (0 : Int) ≤ _), ?_⟩ | refine ⟨_, _, rfl, ?_⟩ | refine ⟨_, _, _, rfl, ?_⟩ | (refine Has.ans (by walk_at "has") ?_) | refine ⟨_, _, _, _, rfl, rfl, (by walk_at "sql"), rfl, ?_⟩ | refine ⟨_, _, rfl, .inl (by walk_at "sql"), ?_⟩ | refine ⟨_, _, rfl, .inr (by walk_at "sqt"), ?_⟩ | refine ⟨_, _, _, _, rfl, rfl, (by walk_at "sqt"), rfl, ?_⟩ | refine ⟨_, _, rfl, (by walk_at "sqt"), rfl, ?_⟩ | refine ⟨_, _, _, _, rfl, (by walk_at "get"), (by assumption), (by assumption), (by walk_at "len"), ?_⟩ | refine ⟨_, _, _, _, _, rfl, (by walk_at "get"), (by assumption), (by assumption), (by walk_at "lk"), ?_⟩)
local macro_rules | `(tactic| walk_at "rd") => `(tactic| repeat walk_at "r1")
local macro_rules | `(tactic| walk_at "lk") => `(tactic| first | (with_reducible exact lk_hit) | (refine lk_miss (by decide +kernel) ?_; walk_at "lk") | rfl)
local macro_rules | `(tactic| walk_at "len") => `(tactic| (refine Nat.lt_of_le_of_lt (m := 60) ?_ (by decide); (repeat (refine len_put ?_)); exact Nat.zero_le _))
local macro_rules | `(tactic| walk_at "len9") => `(tactic| (refine Nat.le_trans (m := 60) ?_ (by decide); (repeat (refine len_put ?_)); exact Nat.zero_le _))
local macro_rules | `(tactic| walk_at "own") => `(tactic| first | assumption | (refine Same.own ?_ (by assumption); walk_at "own"))

section
variable {P : Program} {w : World} {base : Heap}
variable {K : PySem.W.Frag} {mg : Str → Option Value}
/-- a def with a star parameter keeps its promise -/
def Oks (P : Program) (w : World) (K : PySem.W.Frag) (mg : Str → Option Value) (base : Heap) (k : Nat) (f : Addr) (sp : Sp) : Prop := FnR P w K mg base CX0 k f sp ∧ PySem.W.keepIn K (.ref f) = true
def spStar (sp : Sp) : Sp := fun vs H Q E => ∃ ws rest, vs = ws ++ rest ∧ ws.length = 1 ∧ rest.length ≤ sizeLine ∧ ∀ p, H p = none → sp (ws ++ [V.ref p]) (upd H p (.tup rest)) Q E
theorem cxup0 : StX.CXUp CX0 := fun _ _ _ _ _ _ _ _ _ _ _ h => h
theorem star_of {x qual : Str} {st : Stmt} {f : Addr} {fd : FuncData} {N : List Str} {p1 pv : Str} {k : Nat} {sp : Sp} (F : Fun K x qual st f fd) (S : FnScope N ([p1] ++ [pv]) (defScope st))
    (h0 : ∀ (kV doc pm : Value) (an : Option Addr) (cdv ct a : Value), bindArgs (PySem.W.fnOf x qual (defArgs st) (defBody st) (defScope st) .none kV doc pm an cdv ct) ⟨[a], []⟩ = (newTuple [] >>= fun t => pure [(p1, a), (pv, t)]))
    (h1 : ∀ (kV doc pm : Value) (an : Option Addr) (cdv ct a r : Value) (rs : List Value), bindArgs (PySem.W.fnOf x qual (defArgs st) (defBody st) (defScope st) .none kV doc pm an cdv ct) ⟨a :: r :: rs, []⟩ = (newTuple (r :: rs) >>= fun t => pure [(p1, a), (pv, t)]))
    (hbody : ∀ (cdv : Value) (A : Around) (outer : List Env) (s : Shared) (H : Hp) (vs : List V) (Q : VK) (E : XK), Room k (A.deeper (PyProof.Rows.envOfC qual (defScope st) s.heap.objs.size f cdv)) → sp vs H Q E →
      ∃ t, PSs (cxOf CX0 P w K mg base N qual (defScope st) f cdv A outer s H E) (defBody st) t ∧ t { nx := fun _ H' => Q .non H', rt := Q } (start N vs) H) : Oks P w K mg base (k + 1) f (spStar sp) := by
  have kp := F.kp
  obtain ⟨_, _, kV, doc, pm, an, cdv, ct, _, rfl, stands, code⟩ := F.ex
  exact ⟨StX.fn_star stands code S cxup0 (StX.bind_star1 (B := fun l => bindArgs (PySem.W.fnOf x qual (defArgs st) (defBody st) (defScope st) .none kV doc pm an cdv ct) ⟨l, []⟩) (h0 kV doc pm an cdv ct) (h1 kV doc pm an cdv ct)) fun A outer s H vs Q E hr h => hbody cdv A outer s H vs Q E hr h, kp⟩
section
variable {X : Cx} {CX : CXT} {k : Nat} {f : Addr} {sp : Sp} {E : XK} {x : Str} {e : Expr} {es : List Expr} {t : TA} {p pos : Pos}
theorem pe_callF (F : FnR X.prog X.w X.K X.mg X.base CX k f sp) (hr : Room k X.A) (hg : Gl X x) (hm : X.mg x = some (.ref f)) (hk : PySem.W.keepIn X.K (.ref f) = true) (hx : Passes CX X E) (ha : PA X (e :: es) t) (hd : (x == ("__debug__" : Str)) = false := by decide)
    (one : starEach (e :: es) X.env = (false, eval e X.env) :: starEach es X.env := by rfl) (plain : (backTo pos (starEach es X.env)).any (·.1) = false := by rfl) :
    PE X (.Call (.Name x p) (e :: es) [] pos) (fun σ H Q => t σ H fun xs H1 => sp xs H1 Q E) := by
  refine ⟨fun held s σ H Q Iv asked => ?_⟩
  refine wpAny_Call_Name_kw (ld_glob Iv hg hm ?_ hd)
  refine PySem.W.callWith_K (h₀ := X.base) Iv.ok.mod.kin hk (thn (ha.run pos held s σ H _ Iv asked) fun us s1 got => ?_) one plain
  obtain ⟨xs, H1, I1, rel, q⟩ := got
  exact ⟨I1.kIn, wpAny_call (run_fnR F hr hx I1 rel q)⟩
end
def spNeed (K : PySem.W.Frag) : Sp := fun vs H Q _ => ∃ (b : Addr) (n : Nat) (xs : List V) (ps : List UM.P), vs = [.ref b] ∧ BookAt K H b n xs ps ∧ ∀ H', Same H H' → Q .non H'
theorem sc_Book_first_need_not : FnScope ["self", "number", "saying"] ["self"] (defScope (inClass (top 86) 6)) := ⟨rfl, rfl, rfl, by decide +kernel, rfl, by decide +kernel, by decide +kernel⟩
theorem ok_Book_first_need_not (T : Txt K mg) : Ok P w K mg base 1 (He5.wf K (ga K "Book") "property" "first_need_not") ["self"] (spNeed K) := by
  obtain ⟨fd, F⟩ := T.f_Book_first_need_not
  refine ⟨_, F.ok sc_Book_first_need_not (fun vs H Q E h => ?_) (fun cdv A outer s H vs Q E hr h => ?_), F.binds fun _ _ _ _ _ _ us hl => match us, hl with | [_], _ => rfl, F.kp⟩
  · obtain ⟨b, n, xs, ps, rfl, _⟩ := h
    rfl
  · obtain ⟨b, n, xs, ps, rfl, ⟨m, t, hb0, hm, ht, hs⟩, q⟩ := h
    refine ⟨_, (pss_cons (ps_for PassesOwn.never rfl (pi_enumT (by rfl) T.b_enumerate (pa_cons (pe_fld (pv 0) rfl) pa_nil)) (pg_tup rfl (pgs_cons (pg_name (i := 1) sc_Book_first_need_not.nd rfl (Or.inl rfl)) (pgs_cons (pg_name (i := 2) sc_Book_first_need_not.nd rfl (Or.inl rfl)) pgs_nil))) (pss_one (ps_if (pt_not (pt_val (pe_fld (pv 2) rfl))) (pss_one (ps_ret (pv 1))) pss_nil))) (pss_one (ps_ret pe_non))), ?_⟩
    have f1 := hb0.f_sayings T
    walk_at "rd"
    refine ⟨t, xs, rfl, ht, for_it (walk_enumT (K := K) (a := t) (xs := xs)) (fun i σ H' => ∃ v1 v2 : Option V, Same H H' ∧ σ = [some (.ref b), v1, v2]) ⟨none, none, Same.refl _, rfl⟩ (fun i σ H' _ h => by obtain ⟨v1, v2, e, _⟩ := h; exact Same.tup e ht) ?_ ?_⟩
    · rintro i x σ H1 H2 hi ⟨v1, v2, e1, rfl⟩ ⟨Tp, y1, y2, rfl, hT, rfl, hy1, hy2⟩
      cases hy1
      obtain ⟨p, a, t', hp1, rfl, hp3, hp4⟩ := hs.2 i y2 hy2
      have e2 : Same H (upd H1 Tp (.tup [.int (i : Nat), .ref a])) := Same.push e1 hT
      have f2 := (hp3.mono e2).f_usual T
      walk_at "rd"
      exact ⟨_, _, e2, rfl⟩
    · rintro σ H1 ⟨v1, v2, e1, rfl⟩
      walk_at "rd"
      exact q H1 e1
def spUsual (K : PySem.W.Frag) : Sp := fun vs H Q _ => ∃ (b fu : Addr) (n : Nat) (xs ys : List V) (ps : List UM.P), vs = [.ref b, .ref fu] ∧ BookAt K H b n xs ps ∧ SqT K H fu ys ∧ (∀ y ∈ ys, ∃ a c b t, y = .ref a ∧ SayAt K H a c b t true) ∧ ∀ H', Same H H' → Q .non H'
theorem sc_check_usual : FnScope ["book", "further", "number", "saying"] ["book", "further"] (defScope (top 31)) := ⟨rfl, rfl, rfl, by decide +kernel, rfl, by decide +kernel, by decide +kernel⟩
theorem ok_check_usual (T : Txt K mg) : Oks P w K mg base 3 (ga K "check_usual") (spStar (spUsual K)) := by
  obtain ⟨fd, F⟩ := T.d_check_usual
  obtain ⟨_, G_Book_first_need_not, b_Book_first_need_not, k_Book_first_need_not⟩ := ok_Book_first_need_not (P := P) (w := w) (base := base) T
  refine star_of F (p1 := "book") (pv := "further") sc_check_usual (fun _ _ _ _ _ _ _ => rfl) (fun _ _ _ _ _ _ _ _ _ => rfl) fun cdv A outer s H vs Q E hr h => ?_
  obtain ⟨b, fu, n, xs, ys, ps, rfl, hB, hfu, hy, q⟩ := h
  refine ⟨_, PSs.nox (pss_cons (ps_set (i := 2) sc_check_usual.nd rfl (Or.inl rfl) (pe_prop (pv 0) T.c_Book T.m_Book_first_need_not G_Book_first_need_not (hr.mono (by decide)) b_Book_first_need_not .nil pass0 rfl))
      (pss_cons (ps_if (pt_cmpR op_notN (pv 2) pe_non (nomark _)) (pss_one ps_never) pss_nil) (pss_one (ps_for PassesOwn.never rfl (pi_tup (pv 1)) (pg_name (i := 3) sc_check_usual.nd rfl (Or.inl rfl)) (pss_one (ps_if (pt_not (pt_val (pe_fld (pv 3) rfl))) (pss_one ps_never) pss_nil)))))), ?_⟩
  obtain ⟨m, t, hb0, hm, ht, hs⟩ := id hB
  walk_at "rd"
  obtain ⟨dx, fs, hbe⟩ := hb0.ins
  refine ⟨b, dx, fs, rfl, hbe, b, n, xs, ps, rfl, hB, fun H1 e1 => ?_⟩
  walk_at "rd"
  refine ⟨⟨_, Same.tup e1 hfu⟩, for_it (walk_tup (K := K) (a := fu) (xs := ys)) (fun i σ H' => ∃ v, Same H H' ∧ σ = [some (.ref b), some (.ref fu), some .non, v]) ⟨none, e1, rfl⟩ (fun i σ H' _ h => by obtain ⟨v, e, _⟩ := h; exact Same.tup e hfu) ?_ ?_⟩
  · rintro i x σ H2 H3 hi ⟨v, e2, rfl⟩ ⟨rfl, hx⟩
    obtain ⟨a, c, b', t', rfl, h3⟩ := hy x (List.mem_of_getElem? hx)
    have f2 := (h3.mono e2).f_usual T
    walk_at "rd"
    exact ⟨_, e2, rfl⟩
  · rintro σ H2 ⟨v, e2, rfl⟩
    walk_at "rd"
    exact q H2 e2
/-- the row of one saying -/
def rowOf (c b : Nat) (u : Bool) : UM.Row := ((if u = true then c else b), (if u = true then b else c), (if u = true then 1 else 0))
def spLayers (K : PySem.W.Frag) : Sp := fun vs H Q _ => ∃ (b a : Addr) (n : Nat) (xs : List V) (ps : List UM.P) (c b' t : Nat) (u : Bool), vs = [.ref b, .ref a] ∧ BookAt K H b n xs ps ∧ SayAt K H a c b' t u ∧ SayP n c b' t ∧ 0 < n ∧ n ≤ 16 ∧ xs.length ≤ 12 ∧
  ∀ H' r l, Same H H' → H r = none → H' r = some (.tup (l.map layV)) → UM.Done (UM.rowsU ps ++ [rowOf c b' u]) n l → Q (.ref r) H'
theorem sc_lifted_layers : FnScope ["book", "start", "further", "sayings", "days", "layer"] ["book", "start", "further"] (defScope (top 58)) := ⟨rfl, rfl, rfl, by decide +kernel, rfl, by decide +kernel, by decide +kernel⟩
theorem ok_lifted_layers (T : Txt K mg) : Oks P w K mg base 5 (ga K "lifted_layers") (spLayers K) := by
  obtain ⟨fd, F⟩ := T.d_lifted_layers
  obtain ⟨_, G_all_sayings, b_all_sayings, k_all_sayings⟩ := ok_all_sayings (P := P) (w := w) (base := base) T
  obtain ⟨_, G_lifting_of, b_lifting_of, k_lifting_of⟩ := ok_lifting_of (P := P) (w := w) (base := base) T
  obtain ⟨_, G_is_whole, b_is_whole, k_is_whole⟩ := ok_is_whole (P := P) (w := w) (base := base) T
  obtain ⟨_, gc_HIGHEST⟩ := T.c_HIGHEST
  have kp := F.kp
  obtain ⟨oc, od, dV, kV, doc, pm, an, cdv, ct, sls, rfl, lk, hcd, dfl, hK⟩ := F.ex
  rcases dfl with ⟨_, rfl⟩ | ⟨e, _⟩
  rotate_left
  · exact absurd rfl e
  rcases hK with e | ⟨D, rfl, hq⟩
  · cases e
  obtain ⟨u0, hu0, ru0⟩ := hq ("start", .non) List.mem_cons_self
  refine ⟨?_, kp⟩
  intro A outer s H us vs Q E hr e0 r asked
  obtain ⟨b, a, n, xs, ps, c, b', t, u, rfl, hB, ha, hP, hn0, hn, hx, q⟩ := asked
  cases r with
  | @cons v1 u1 vr ur r1 r2 =>
  cases r2 with
  | @cons v2 u2 vr ur r2 r3 =>
  cases r3
  have hnone : H s.heap.objs.size = Option.none := e0.hok.fresh (Nat.le_refl _)
  refine StX.run_bnd lk hcd sc_lifted_layers hr e0 (G := fun xs H2 => ∃ p, H p = Option.none ∧ xs = [V.ref b, .non, V.ref p] ∧ H2 = upd H p (.tup [.ref a])) (fun A' Ex Q' h => ?_) fun s2 H2 xs2 ⟨p, hp, ex, eH⟩ hr' => ?_
  · have KX : K.In s.heap := e0.mod.kin.keeps fun b o e => (e0.bs b o e).1
    obtain ⟨β, γ, k1, k2, k3, a', e1, e2, e3⟩ : ∃ (β γ : Type) (k1 : Option Value → Sem β) (k2 : β → Sem γ) (k3 : γ → Sem (List (Str × Value))) (a' : β), bindArgs (PySem.W.fnOf "lifted_layers" "lifted_layers" (defArgs (top 58)) (defBody (top 58)) (defScope (top 58)) .none (.ref D) doc pm an cdv ct) ⟨[u1, u2], []⟩ = ((nsGet D "start" >>= k1) >>= k2) >>= k3 ∧ k1 (some u0) = pure a' ∧
        (k2 a' >>= k3) = (newTuple [u2] >>= fun t => pure [(("book" : Str), u1), (("start" : Str), u0), (("further" : Str), t)]) := ⟨_, _, _, _, _, _, rfl, rfl, rfl⟩
    rw [e1, bind_assoc, bind_assoc]
    refine wpAny_bind ((PySem.W.looks_nsIn KX hu0).here ?_)
    rw [e2, pure_bind, e3]
    refine wpAny_bind (wpAny_newTuple (wpAny_pure ?_) (by show 1 ≤ sizeLine; decide))
    have r4 : Vals [V.ref a] [u2] := .cons r2 .nil
    have new : ObjOk P w (upd H s.heap.objs.size (.tup [.ref a])) (s.heap.push ({ cls := .type "tuple", data := .seq [u2].toArray } : Obj)) s.heap.objs.size (.tup [.ref a]) := ⟨by show 1 ≤ sizeLine; decide, [u2], r4, ⟨_, Heap.get?_push_size _ rfl, rfl, _, rfl⟩⟩
    have un := StX.un_laid (fs := frs outer) (s := s) (o := ({ cls := .type "tuple", data := .seq [u2].toArray } : Obj)) (u := .tup [.ref a]) hnone
    exact h _ _ [V.ref b, .non, V.ref s.heap.objs.size] [u1, u0, Value.ref s.heap.objs.size] (StX.env0_laid e0 new) un rfl (fun e s' => cxup0 outer s H _ _ E e s' un (fun b o q => Heap.get?_push_of_some _ q) rfl) (.cons r1 (.cons ru0 (.cons rfl .nil))) rfl ⟨_, hnone, rfl, rfl⟩
  · subst ex eH
    have hr := hr'
    refine ⟨_, PSs.nox (pss_cons (ps_set (i := 3) sc_lifted_layers.nd rfl (Or.inl rfl) (pe_call G_all_sayings (hr.mono (by decide)) rfl T.g_all_sayings k_all_sayings b_all_sayings .nil pass0 (pa_cons (pv 0) (pa_cons (pv 2) pa_nil))))
      (pss_cons (ps_set (i := 4) sc_lifted_layers.nd rfl (Or.inl rfl) (pe_fld (pe_fld (pv 0) rfl) rfl))
      (pss_cons (ps_if (pt_cmpR op_isN (pv 1) pe_non (nomark _)) (pss_one (ps_ret (pe_callTy call_tuple_of (by rfl) T.b_tuple (by decide +kernel) (pa_cons (pe_fld (pe_call G_lifting_of (hr.mono (by decide)) rfl T.g_lifting_of k_lifting_of b_lifting_of .nil pass0 (pa_cons (pv 3) (pa_cons (pe_op op_rep (pe_lst (pa_cons pe_int pa_nil)) (pv 4)) pa_nil))) rfl) pa_nil)))) pss_nil)
      (pss_cons (ps_if (pt_not (pt_val (pe_callB call_isiT (by rfl) T.b_isinstance (by decide +kernel) (pa_cons (pv 1) (pa_cons (pe_tup (pa_cons (pe_bltn (v := .ty "list") rfl T.b_list (by decide +kernel) rfl) (pa_cons (pe_bltn (v := .ty "tuple") rfl T.b_tuple (by decide +kernel) rfl) pa_nil))) pa_nil))))) (pss_one ps_never) pss_nil)
      (pss_cons (ps_if (pt_cmpR op_ne (pe_callB call_len_seq (by rfl) T.b_len (by decide +kernel) (pa_cons (pv 1) pa_nil)) (pv 4) (nomark _)) (pss_one ps_never) pss_nil)
      (pss_cons (ps_for PassesOwn.never rfl (pi_list (pv 1)) (pg_name (i := 5) sc_lifted_layers.nd rfl (Or.inl rfl)) (pss_one (ps_if (pt_not (pt_val (pe_call G_is_whole (hr.mono (by decide)) rfl T.g_is_whole k_is_whole b_is_whole .nil pass0 (pa_cons (pv 5) (pa_cons pe_int (pa_cons (pe_glob (v := .int 1000000000000000000000000000000) rfl gc_HIGHEST ⟨_, rfl⟩) pa_nil)))))) (pss_one ps_never) pss_nil))) (pss_one (ps_ret (pe_callTy call_tuple_of (by rfl) T.b_tuple (by decide +kernel) (pa_cons (pe_fld (pe_call G_lifting_of (hr.mono (by decide)) rfl T.g_lifting_of k_lifting_of b_lifting_of .nil pass0 (pa_cons (pv 3) (pa_cons (pe_callTy call_list_of (by rfl) T.b_list (by decide +kernel) (pa_cons (pv 1) pa_nil)) pa_nil))) rfl) pa_nil)))))))))), ?_⟩
    have e1 : Same H (upd H p (.tup [.ref a])) := Same.new hp
    obtain ⟨m, t', hb0, hm, ht, hs⟩ := id hB
    have f1 := hb0.f_marks T; have f2 := hm.f_days T
    walk_at "rd"
    refine ⟨b, p, n, xs, [.ref a], ps, _, rfl, hB.mono e1, SqT.of upd_same, SRowsN.one (ha.mono e1) hP, hn, hx, Nat.le_refl _, fun H2 r e2 hr2 => ?_⟩
    have e12 := e1.trans e2
    walk_at "rd"
    refine ⟨by show 1 ≤ sizeLine; decide, fun z hz => ?_⟩
    walk_at "rd"
    have hrep : n ≤ 60 := by omega
    refine ⟨_, _, _, rfl, rfl, upd_same, by omega, by omega, by rw [Int.toNat_natCast]; exact Nat.le_trans (by show 1 * n ≤ 16; omega) (by decide), fun st hst => ?_⟩
    walk_at "rd"
    have e3 : Same H2 (upd H2 z (.lst [.int 0])) := Same.new hz
    have e4 := Same.push e3 hst (o := .lst (List.replicate (n : Int).toNat [V.int 0]).flatten)
    refine ⟨r, st, n, xs ++ [.ref a], UM.rowsU ps ++ [rowOf c b' u], rfl, SqL.of (e4 _ _ hr2), SRows.append ((SRowsN.of hs).weak.mono (e12.trans e4)) ((SRowsN.one ha hP).weak.mono (e12.trans e4)), SqL.of ?_, hn0, hn, by rw [List.length_append]; show xs.length + 1 ≤ 20; omega, fun H0' H3 pl l s0 hd hL => ?_⟩
    · rw [upd_same, Int.toNat_natCast, flat_rep]
    · obtain ⟨rw_, st2, la, re, he, kn, xs2, rs, hs2, s2', p0, la0, re0, he0, nlr, nlh, nrh, hp2, hk, hla, _⟩ := hL
      have g1 := hp2.f_layers T
      walk_at "rd"
      refine ⟨la, _, rfl, .inl ⟨SqL.of hla, fun z2 hz2 => ?_⟩⟩
      have e5 := (e12.trans e4).trans (s0.trans s2')
      exact q _ z2 l (Same.push e5 hz2) (Same.free e5 hz2) upd_same hd
end
end U
set_option maxHeartbeats 4100000
namespace U
open PySem L2 He
local macro_rules | `(tactic| walk_at "same") => `(tactic| first | (with_reducible assumption) | exact Same.refl _ | (refine Same.push ?_ (by assumption); walk_at "same") | (refine Same.own ?_ (by assumption); walk_at "same") | (refine Same.trans ?_ (by with_reducible assumption); walk_at "same"))
local macro_rules | `(tactic| walk_at "get") => `(tactic| first | assumption | exact upd_same | (refine get_push (by assumption) ?_; walk_at "get") | (refine get_ne (by assumption) ?_; walk_at "get") | (refine get_ne' (by assumption) ?_; walk_at "get") | (refine Same.get ?_ (by assumption); walk_at "same"))
local macro_rules | `(tactic| walk_at "has") => `(tactic| first | assumption | (refine Has.mono ?_ (by assumption); walk_at "same"))
local macro_rules | `(tactic| walk_at "sql") => `(tactic| first | assumption | exact SqL.of upd_same | exact SqL.of (by assumption) | (refine Same.seq ?_ (by assumption); walk_at "same") | (refine SqL.of ?_; walk_at "get"))
local macro_rules | `(tactic| walk_at "sqt") => `(tactic| first | assumption | exact SqT.of upd_same | exact SqT.of (by assumption) | (refine Same.tup ?_ (by assumption); walk_at "same") | (refine SqT.of ?_; walk_at "get"))
local macro_rules | `(tactic| walk_at "r1") => `(tactic| first | ((with_reducible refine ite_tt ?_ ?_); (focus exact rfl)) | ((with_reducible refine ite_ff ?_ ?_); (focus exact rfl)) | refine ⟨_, rfl, ?_⟩ | refine ⟨_, _, rfl, rfl, ?_⟩ | (refine ⟨rfl, ?_⟩) | refine ⟨(Int.natCast_nonneg _ : (0 : Int) ≤ _), ?_⟩ | refine ⟨_, _, rfl, ?_⟩ | refine ⟨_, _, _, rfl, ?_⟩ | (refine Has.ans (by walk_at "has") ?_) | refine ⟨_, _, _, _, rfl, rfl, (by walk_at "sql"), rfl, ?_⟩ | refine ⟨_, _, rfl, .inl (by walk_at "sql"), ?_⟩ | refine ⟨_, _, rfl, .inr (by walk_at "sqt"), ?_⟩ | refine ⟨_, _, _, _, rfl, rfl, (by walk_at "sqt"), rfl, ?_⟩ | refine ⟨_, _, rfl, (by walk_at "sqt"), rfl, ?_⟩ | refine ⟨_, _, _, _, rfl, (by walk_at "get"), (by assumption), (by assumption), (by walk_at "len"), ?_⟩ | refine ⟨_, _, _, _, _, rfl, (by walk_at "get"), (by assumption), (by assumption), (by walk_at "lk"), ?_⟩)
local macro_rules | `(tactic| walk_at "rd") => `(tactic| repeat walk_at "r1")
local macro_rules | `(tactic| walk_at "lk") => `(tactic| first | (with_reducible exact lk_hit) | (refine lk_miss (by decide +kernel) ?_; walk_at "lk") | rfl)
local macro_rules | `(tactic| walk_at "len") => `(tactic| (refine Nat.lt_of_le_of_lt (m := 60) ?_ (by decide); (repeat (refine len_put ?_)); exact Nat.zero_le _))
local macro_rules | `(tactic| walk_at "len9") => `(tactic| (refine Nat.le_trans (m := 60) ?_ (by decide); (repeat (refine len_put ?_)); exact Nat.zero_le _))
local macro_rules | `(tactic| walk_at "own") => `(tactic| first | assumption | (refine Same.own ?_ (by assumption); walk_at "own"))

section
variable {P : Program} {w : World} {base : Heap}
variable {K : PySem.W.Frag} {mg : Str → Option Value}
theorem tyx_lst {H : Hp} {a : Addr} {xs : List V} (h : SqL K H a xs) : TyX K H (.ref a) (.type "list") := by
  rcases h with (h | ⟨o, h⟩) | ⟨o, its, n, h1, h2, _⟩
  · exact .base (.lst h)
  · exact .base (.frz h)
  · exact .kList h1 h2
theorem tyx_tup {H : Hp} {a : Addr} {xs : List V} (h : SqT K H a xs) : TyX K H (.ref a) (.type "tuple") := by
  rcases h with (h | ⟨o, h⟩) | ⟨o, its, n, h1, h2, _⟩
  · exact .base (.tup h)
  · exact .fTuple h
  · exact .kTuple h1 h2
/-- isinstance(x, (list, tuple)) -/
theorem any_lt {ty : Value} (hty : ty = .type "list" ∨ ty = .type "tuple") : PySem.W.kitAny K ty [.type "list", .type "tuple"] = some true := by
  rcases hty with rfl | rfl
  · exact kitAny_cons (b := true) (kit_ty (by decide +kernel)) (fun z => by cases z) (fun _ => rfl)
  · refine kitAny_cons (b := false) (kit_ty (by decide +kernel)) (fun _ => ?_) (fun z => by cases z)
    exact kitAny_cons (b := true) (kit_ty (by decide +kernel)) (fun z => by cases z) (fun _ => rfl)
theorem cls_lt : Paired ClsV [.ty "list", .ty "tuple"] [.type "list", .type "tuple"] := .cons (.ty _) (.cons (.ty _) .nil)
def nV (ns : List Nat) : List V := ns.map fun (d : Nat) => V.int (d : Int)
theorem nV_len (ns : List Nat) : (nV ns).length = ns.length := List.length_map ..
def Four (n : Nat) : Prop := n = 2 ∨ n = 4 ∨ n = 8 ∨ n = 16
theorem in_four {n : Nat} (h : Four n) : inV (.int (n : Int)) [.int 2, .int 4, .int 8, .int 16] = true := by
  rcases h with rfl | rfl | rfl | rfl <;> rfl
def spChecked (K : PySem.W.Frag) : Sp := fun vs H Q _ => ∃ (l : Addr) (ns : List Nat), vs = [.ref l] ∧ SqL K H l (nV ns) ∧ Four ns.length ∧ (∀ x ∈ ns, x ≤ 10 ^ 30) ∧ ∀ H' r, Same H H' → H' r = some (.tup (nV ns)) → Q (.ref r) H'
theorem sc_checked_layers : FnScope ["layers", "layer"] ["layers"] (defScope (top 44)) := ⟨rfl, rfl, rfl, by decide +kernel, rfl, by decide +kernel, by decide +kernel⟩
theorem ok_checked_layers (T : Txt K mg) : Ok P w K mg base 2 (ga K "checked_layers") ["layers"] (spChecked K) := by
  obtain ⟨fd, F⟩ := T.d_checked_layers
  obtain ⟨_, G_is_whole, b_is_whole, k_is_whole⟩ := ok_is_whole (P := P) (w := w) (base := base) T
  obtain ⟨_, gc_HIGHEST⟩ := T.c_HIGHEST
  refine ⟨_, F.ok sc_checked_layers (fun vs H Q E h => ?_) (fun cdv A outer s H vs Q E hr h => ?_), F.binds fun _ _ _ _ _ _ us hl => match us, hl with | [_], _ => rfl, F.kp⟩
  · obtain ⟨l, ns, rfl, _⟩ := h
    rfl
  · obtain ⟨l, ns, rfl, hl, hn, hx, q⟩ := h
    refine ⟨_, (pss_cons (ps_if (PW.pt (pw_or (pt_not (pt_val (pe_callB call_isiT (by rfl) T.b_isinstance (by decide +kernel) (pa_cons (pv 0) (pa_cons (pe_tup (pa_cons (pe_bltn (v := .ty "list") rfl T.b_list (by decide +kernel) rfl) (pa_cons (pe_bltn (v := .ty "tuple") rfl T.b_tuple (by decide +kernel) rfl) pa_nil))) pa_nil))))) (pw_or1 (pt_cmpR op_notIn_seq (pe_callB call_len_seq (by rfl) T.b_len (by decide +kernel) (pa_cons (pv 0) pa_nil)) (pe_glob (v := .ref (ga K "COUNTS")) rfl T.g_COUNTS rfl) rfl)))) (pss_one ps_never) pss_nil)
      (pss_cons (ps_for PassesOwn.never rfl (pi_list (pv 0)) (pg_name (i := 1) sc_checked_layers.nd rfl (Or.inl rfl)) (pss_one (ps_if (pt_not (pt_val (pe_call G_is_whole (hr.mono (by decide)) rfl T.g_is_whole k_is_whole b_is_whole .nil pass0 (pa_cons (pv 1) (pa_cons pe_int (pa_cons (pe_glob (v := .int 1000000000000000000000000000000) rfl gc_HIGHEST ⟨_, rfl⟩) pa_nil)))))) (pss_one ps_never) pss_nil))) (pss_one (ps_ret (pe_callTy call_tuple_of (by rfl) T.b_tuple (by decide +kernel) (pa_cons (pv 0) pa_nil)))))), ?_⟩
    walk_at "rd"
    refine ⟨by show 2 ≤ sizeLine; decide, fun t ht => ?_⟩
    have e1 : Same H (upd H t (.tup [.ty "list", .ty "tuple"])) := Same.new ht
    refine ⟨V.ref l, t, _, _, _, true, rfl, upd_same, cls_lt, tyx_lst (e1.seq hl), any_lt (.inl rfl), ?_⟩
    revert e1
    generalize upd H t (.tup [.ty "list", .ty "tuple"]) = H1
    intro e1
    walk_at "rd"
    refine ⟨ga K "COUNTS", _, rfl, .inr (T.t_COUNTS _), rfl, rfl, ?_⟩
    rw [nV_len, in_four hn]
    walk_at "rd"
    refine ⟨⟨_, e1.seq hl⟩, for_list (K := K) (a := l) (xs := nV ns) (fun i σ H' => ∃ v, H' = H1 ∧ σ = [some (.ref l), v]) ⟨none, rfl, rfl⟩ (fun i σ H' _ h => by obtain ⟨v, rfl, _⟩ := h; exact e1.seq hl) ?_ ?_⟩
    · rintro i x σ H2 hx1 ⟨v, rfl, rfl⟩
      obtain ⟨d, hd, rfl⟩ := get_map hx1
      have hle := hx d (List.mem_of_getElem? hd)
      walk_at "rd"
      have : (decide ((0 : Int) ≤ (d : Int)) && decide ((d : Int) ≤ 1000000000000000000000000000000)) = true := by simp; omega
      rw [this]
      walk_at "rd"
      exact ⟨_, rfl, rfl⟩
    · rintro σ H2 ⟨v, rfl, rfl⟩
      walk_at "rd"
      refine ⟨l, _, rfl, .inl ⟨e1.seq hl, fun r hr => ?_⟩⟩
      exact q _ r (Same.push e1 hr) upd_same
def spOrder (K : PySem.W.Frag) : Sp := fun vs H Q _ => ∃ (H0 : Hp) (p dx l : Addr) (ns : List Nat), vs = [.ref p, .ref l] ∧ H p = some (.ins (ga K "Order") dx []) ∧ Same H0 H ∧ H0 p = none ∧ SqL K H0 l (nV ns) ∧ Four ns.length ∧ (∀ x ∈ ns, x ≤ 10 ^ 30) ∧ 0 ∈ ns ∧
  ∀ H', Same H0 H' → OrderAt K H' p → Q .non H'
theorem sc_Order_init : FnScope ["self", "layers"] ["self", "layers"] (defScope (inClass (top 49) 0)) := ⟨rfl, rfl, rfl, by decide +kernel, rfl, by decide +kernel, by decide +kernel⟩
theorem ok_Order_init (T : Txt K mg) : Ok P w K mg base 3 (ma K (ga K "Order") "__init__") ["self", "layers"] (spOrder K) := by
  obtain ⟨fd, F⟩ := T.f_Order_init
  obtain ⟨_, G_checked_layers, b_checked_layers, k_checked_layers⟩ := ok_checked_layers (P := P) (w := w) (base := base) T
  refine ⟨_, F.ok sc_Order_init (fun vs H Q E h => ?_) (fun cdv A outer s H vs Q E hr h => ?_), F.binds fun _ _ _ _ _ _ us hl => match us, hl with | [_, _], _ => rfl, F.kp⟩
  · obtain ⟨H0, p, dx, l, ns, rfl, _⟩ := h
    rfl
  · obtain ⟨H0, p, dx, l, ns, rfl, hp, s0, p0, hl, hn, hx, hz, q⟩ := h
    refine ⟨_, (pss_cons (ps_fld (pv 0) (pe_call G_checked_layers (hr.mono (by decide)) rfl T.g_checked_layers k_checked_layers b_checked_layers .nil pass0 (pa_cons (pv 1) pa_nil)) rfl) (pss_one (ps_if (pt_cmpR op_gt (pe_callB (cr_minT rfl hr.units) (by rfl) T.b_min (by decide +kernel) (pa_cons (pe_fld (pv 0) rfl) pa_nil)) pe_int (nomark _)) (pss_one ps_never) pss_nil))), ?_⟩
    have c_Order := T.c_Order; have n_layers := T.n_Order_layers
    walk_at "rd"
    refine ⟨l, ns, rfl, s0.seq hl, hn, hx, fun H1 r e1 hr => ?_⟩
    have hp1 := e1 _ _ hp
    have s1 := s0.trans e1
    walk_at "rd"
    have hrp : r ≠ p := ne_of hr hp1 (by intro z; cases z)
    refine ⟨r, ns.map fun (d : Nat) => (d : Int), rfl, SqT.of (by rw [upd_ne hrp, List.map_map]; exact hr), ?_, fun m hm hle => ?_⟩
    · rw [List.length_map]
      rcases hn with h | h | h | h <;> omega
    · have m0 : m = 0 := by
        have h1 := hle 0 (List.mem_map.mpr ⟨0, hz, rfl⟩)
        obtain ⟨d, _, rfl⟩ := List.mem_map.mp hm
        omega
      subst m0
      walk_at "rd"
      exact q _ (by walk_at "same") ⟨dx, _, upd_same, (by walk_at "len9")⟩
def spLifted (K : PySem.W.Frag) : Sp := fun vs H Q _ => ∃ (H0 : Hp) (p dx : Addr) (x y z : V), vs = [.ref p, x, y, z] ∧ H p = some (.ins (ga K "Lifted") dx []) ∧ Same H0 H ∧ H0 p = none ∧ ∀ H', Same H0 H' → LiftedAt K H' p x → Q .non H'
theorem sc_Lifted_init : FnScope ["self", "order", "reasons", "heights"] ["self", "order", "reasons", "heights"] (defScope (inClass (top 51) 0)) := ⟨rfl, rfl, rfl, by decide +kernel, rfl, by decide +kernel, by decide +kernel⟩
theorem ok_Lifted_init (T : Txt K mg) : Ok P w K mg base 1 (ma K (ga K "Lifted") "__init__") ["self", "order", "reasons", "heights"] (spLifted K) := by
  obtain ⟨fd, F⟩ := T.f_Lifted_init
  refine ⟨_, F.ok sc_Lifted_init (fun vs H Q E h => ?_) (fun cdv A outer s H vs Q E hr h => ?_), F.binds fun _ _ _ _ _ _ us hl => match us, hl with | [_, _, _, _], _ => rfl, F.kp⟩
  · obtain ⟨H0, p, dx, x, y, z, rfl, _⟩ := h
    rfl
  · obtain ⟨H0, p, dx, x, y, z, rfl, hp, s0, p0, q⟩ := h
    refine ⟨_, (pss_cons (ps_fld (pv 0) (pv 1) rfl)
      (pss_cons (ps_fld (pv 0) (pv 2) rfl) (pss_one (ps_fld (pv 0) (pv 3) rfl)))), ?_⟩
    have c_Lifted := T.c_Lifted; have n_order := T.n_Lifted_order; have n_reasons := T.n_Lifted_reasons; have n_heights := T.n_Lifted_heights
    walk_at "rd"
    exact q _ (by walk_at "same") ⟨dx, _, upd_same, (by walk_at "lk"), (by walk_at "len9")⟩
def spStuck (K : PySem.W.Frag) : Sp := fun vs H Q _ => ∃ (H0 : Hp) (p dx : Addr) (x y z : V), vs = [.ref p, x, y, z] ∧ H p = some (.ins (ga K "Stuck") dx []) ∧ Same H0 H ∧ H0 p = none ∧ ∀ H', Same H0 H' → StuckAt K H' p → Q .non H'
theorem sc_Stuck_init : FnScope ["self", "days", "reasons", "heights"] ["self", "days", "reasons", "heights"] (defScope (inClass (top 52) 0)) := ⟨rfl, rfl, rfl, by decide +kernel, rfl, by decide +kernel, by decide +kernel⟩
theorem ok_Stuck_init (T : Txt K mg) : Ok P w K mg base 1 (ma K (ga K "Stuck") "__init__") ["self", "days", "reasons", "heights"] (spStuck K) := by
  obtain ⟨fd, F⟩ := T.f_Stuck_init
  refine ⟨_, F.ok sc_Stuck_init (fun vs H Q E h => ?_) (fun cdv A outer s H vs Q E hr h => ?_), F.binds fun _ _ _ _ _ _ us hl => match us, hl with | [_, _, _, _], _ => rfl, F.kp⟩
  · obtain ⟨H0, p, dx, x, y, z, rfl, _⟩ := h
    rfl
  · obtain ⟨H0, p, dx, x, y, z, rfl, hp, s0, p0, q⟩ := h
    refine ⟨_, (pss_cons (ps_fld (pv 0) (pv 1) rfl)
      (pss_cons (ps_fld (pv 0) (pv 2) rfl) (pss_one (ps_fld (pv 0) (pv 3) rfl)))), ?_⟩
    have c_Stuck := T.c_Stuck; have n_days := T.n_Stuck_days; have n_reasons := T.n_Stuck_reasons; have n_heights := T.n_Stuck_heights
    walk_at "rd"
    exact q _ (by walk_at "same") ⟨dx, _, upd_same, (by walk_at "len9")⟩
def spTold (K : PySem.W.Frag) : Sp := fun vs H Q _ => ∃ (H0 : Hp) (p dx : Addr) (x : V), vs = [.ref p, x] ∧ H p = some (.ins (ga K "Told") dx []) ∧ Same H0 H ∧ H0 p = none ∧ ∀ H', Same H0 H' → ToldAt K H' p → Q .non H'
theorem sc_Told_init : FnScope ["self", "stuck"] ["self", "stuck"] (defScope (inClass (top 88) 0)) := ⟨rfl, rfl, rfl, by decide +kernel, rfl, by decide +kernel, by decide +kernel⟩
theorem ok_Told_init (T : Txt K mg) : Ok P w K mg base 1 (ma K (ga K "Told") "__init__") ["self", "stuck"] (spTold K) := by
  obtain ⟨fd, F⟩ := T.f_Told_init
  refine ⟨_, F.ok sc_Told_init (fun vs H Q E h => ?_) (fun cdv A outer s H vs Q E hr h => ?_), F.binds fun _ _ _ _ _ _ us hl => match us, hl with | [_, _], _ => rfl, F.kp⟩
  · obtain ⟨H0, p, dx, x, rfl, _⟩ := h
    rfl
  · obtain ⟨H0, p, dx, x, rfl, hp, s0, p0, q⟩ := h
    refine ⟨_, (pss_one (ps_fld (pv 0) (pv 1) rfl)), ?_⟩
    have c_Told := T.c_Told; have n_stuck := T.n_Told_stuck
    walk_at "rd"
    exact q _ (by walk_at "same") ⟨dx, _, upd_same, (by walk_at "len9")⟩
def spNot (K : PySem.W.Frag) : Sp := fun vs H Q _ => ∃ (H0 : Hp) (p dx : Addr) (x : V), vs = [.ref p, x] ∧ H p = some (.ins (ga K "NotTold") dx []) ∧ Same H0 H ∧ H0 p = none ∧ ∀ H', Same H0 H' → NotAt K H' p → Q .non H'
theorem sc_NotTold_init : FnScope ["self", "order"] ["self", "order"] (defScope (inClass (top 89) 0)) := ⟨rfl, rfl, rfl, by decide +kernel, rfl, by decide +kernel, by decide +kernel⟩
theorem ok_NotTold_init (T : Txt K mg) : Ok P w K mg base 1 (ma K (ga K "NotTold") "__init__") ["self", "order"] (spNot K) := by
  obtain ⟨fd, F⟩ := T.f_NotTold_init
  refine ⟨_, F.ok sc_NotTold_init (fun vs H Q E h => ?_) (fun cdv A outer s H vs Q E hr h => ?_), F.binds fun _ _ _ _ _ _ us hl => match us, hl with | [_, _], _ => rfl, F.kp⟩
  · obtain ⟨H0, p, dx, x, rfl, _⟩ := h
    rfl
  · obtain ⟨H0, p, dx, x, rfl, hp, s0, p0, q⟩ := h
    refine ⟨_, (pss_one (ps_fld (pv 0) (pv 1) rfl)), ?_⟩
    have c_NotTold := T.c_NotTold; have n_order := T.n_NotTold_order
    walk_at "rd"
    exact q _ (by walk_at "same") ⟨dx, _, upd_same, (by walk_at "len9")⟩
def spBound (K : PySem.W.Frag) : Sp := fun vs H Q _ => ∃ (H0 : Hp) (p dx : Addr) (t : Addr), vs = [.ref p, .ref t] ∧ H p = some (.ins (ga K "Bounded") dx []) ∧ Same H0 H ∧ H0 p = none ∧ ∀ H', Same H0 H' → BoundAt0 K H' p t → Q .non H'
theorem sc_Bounded_init : FnScope ["self", "lot"] ["self", "lot"] (defScope (inClass (top 72) 0)) := ⟨rfl, rfl, rfl, by decide +kernel, rfl, by decide +kernel, by decide +kernel⟩
theorem ok_Bounded_init (T : Txt K mg) : Ok P w K mg base 1 (ma K (ga K "Bounded") "__init__") ["self", "lot"] (spBound K) := by
  obtain ⟨fd, F⟩ := T.f_Bounded_init
  refine ⟨_, F.ok sc_Bounded_init (fun vs H Q E h => ?_) (fun cdv A outer s H vs Q E hr h => ?_), F.binds fun _ _ _ _ _ _ us hl => match us, hl with | [_, _], _ => rfl, F.kp⟩
  · obtain ⟨H0, p, dx, t, rfl, _⟩ := h
    rfl
  · obtain ⟨H0, p, dx, t, rfl, hp, s0, p0, q⟩ := h
    refine ⟨_, (pss_one (ps_fld (pv 0) (pv 1) rfl)), ?_⟩
    have c_Bounded := T.c_Bounded; have n_lot := T.n_Bounded_lot
    walk_at "rd"
    exact q _ (by walk_at "same") ⟨dx, _, upd_same, (by walk_at "lk"), (by walk_at "len9")⟩
def spExc (K : PySem.W.Frag) : Sp := fun vs H Q _ => ∃ (H0 : Hp) (p dx : Addr) (t : Addr), vs = [.ref p, .ref t] ∧ H p = some (.ins (ga K "Exceeds") dx []) ∧ Same H0 H ∧ H0 p = none ∧ ∀ H', Same H0 H' → ExcAt0 K H' p t → Q .non H'
theorem sc_Exceeds_init : FnScope ["self", "weights"] ["self", "weights"] (defScope (inClass (top 73) 0)) := ⟨rfl, rfl, rfl, by decide +kernel, rfl, by decide +kernel, by decide +kernel⟩
theorem ok_Exceeds_init (T : Txt K mg) : Ok P w K mg base 1 (ma K (ga K "Exceeds") "__init__") ["self", "weights"] (spExc K) := by
  obtain ⟨fd, F⟩ := T.f_Exceeds_init
  refine ⟨_, F.ok sc_Exceeds_init (fun vs H Q E h => ?_) (fun cdv A outer s H vs Q E hr h => ?_), F.binds fun _ _ _ _ _ _ us hl => match us, hl with | [_, _], _ => rfl, F.kp⟩
  · obtain ⟨H0, p, dx, t, rfl, _⟩ := h
    rfl
  · obtain ⟨H0, p, dx, t, rfl, hp, s0, p0, q⟩ := h
    refine ⟨_, (pss_one (ps_fld (pv 0) (pv 1) rfl)), ?_⟩
    have c_Exceeds := T.c_Exceeds; have n_weights := T.n_Exceeds_weights
    walk_at "rd"
    exact q _ (by walk_at "same") ⟨dx, _, upd_same, (by walk_at "lk"), (by walk_at "len9")⟩
end
end U
set_option maxHeartbeats 4100000
namespace U
open PySem L2 He
local macro_rules | `(tactic| walk_at "same") => `(tactic| first | (with_reducible assumption) | exact Same.refl _ | (refine Same.push ?_ (by assumption); walk_at "same") | (refine Same.own ?_ (by assumption); walk_at "same") | (refine Same.trans ?_ (by with_reducible assumption); walk_at "same"))
local macro_rules | `(tactic| walk_at "get") => `(tactic| first | assumption | exact upd_same | (refine get_push (by assumption) ?_; walk_at "get") | (refine get_ne (by assumption) ?_; walk_at "get") | (refine get_ne' (by assumption) ?_; walk_at "get") | (refine Same.get ?_ (by assumption); walk_at "same"))
local macro_rules | `(tactic| walk_at "has") => `(tactic| first | assumption | (refine Has.mono ?_ (by assumption); walk_at "same"))
local macro_rules | `(tactic| walk_at "sql") => `(tactic| first | assumption | exact SqL.of upd_same | exact SqL.of (by assumption) | (refine Same.seq ?_ (by assumption); walk_at "same") | (refine SqL.of ?_; walk_at "get"))
local macro_rules | `(tactic| walk_at "sqt") => `(tactic| first | assumption | exact SqT.of upd_same | exact SqT.of (by assumption) | (refine Same.tup ?_ (by assumption); walk_at "same") | (refine SqT.of ?_; walk_at "get"))
local macro_rules | `(tactic| walk_at "r1") => `(tactic| first | ((with_reducible refine ite_tt ?_ ?_); (focus exact rfl)) | ((with_reducible refine ite_ff ?_ ?_); (focus exact rfl)) | refine ⟨_, rfl, ?_⟩ | refine ⟨_, _, rfl, rfl, ?_⟩ | (refine ⟨rfl, ?_⟩) | refine ⟨(Int.natCast_nonneg _ : (0 : Int) ≤ _), ?_⟩ | refine ⟨_, _, rfl, ?_⟩ | refine ⟨_, _, _, rfl, ?_⟩ | (refine Has.ans (by walk_at "has") ?_) | refine ⟨_, _, _, _, rfl, rfl, (by walk_at "sql"), rfl, ?_⟩ | refine ⟨_, _, rfl, .inl (by walk_at "sql"), ?_⟩ | refine ⟨_, _, rfl, .inr (by walk_at "sqt"), ?_⟩ | refine ⟨_, _, _, _, rfl, rfl, (by walk_at "sqt"), rfl, ?_⟩ | refine ⟨_, _, rfl, (by walk_at "sqt"), rfl, ?_⟩ | refine ⟨_, _, _, _, rfl, (by walk_at "get"), (by assumption), (by assumption), (by walk_at "len"), ?_⟩ | refine ⟨_, _, _, _, _, rfl, (by walk_at "get"), (by assumption), (by assumption), (by walk_at "lk"), ?_⟩)
local macro_rules | `(tactic| walk_at "rd") => `(tactic| repeat walk_at "r1")
local macro_rules | `(tactic| walk_at "lk") => `(tactic| first | (with_reducible exact lk_hit) | (refine lk_miss (by decide +kernel) ?_; walk_at "lk") | rfl)
local macro_rules | `(tactic| walk_at "len") => `(tactic| (refine Nat.lt_of_le_of_lt (m := 60) ?_ (by decide); (repeat (refine len_put ?_)); exact Nat.zero_le _))
local macro_rules | `(tactic| walk_at "len9") => `(tactic| (refine Nat.le_trans (m := 60) ?_ (by decide); (repeat (refine len_put ?_)); exact Nat.zero_le _))
local macro_rules | `(tactic| walk_at "own") => `(tactic| first | assumption | (refine Same.own ?_ (by assumption); walk_at "own"))

section
variable {P : Program} {w : World} {base : Heap}
variable {K : PySem.W.Frag} {mg : Str → Option Value}
/-- what lift answers -/
def LiftAns (K : PySem.W.Frag) (H : Hp) (r : Addr) (l : UM.Lay) : Prop := ((UM.openL l = []) ∧ ∃ o, LiftedAt K H r o) ∨ (UM.openL l ≠ [] ∧ StuckAt K H r)
theorem full_layers : ∀ {l : UM.Lay}, UM.openL l = [] → ∃ ns : List Nat, l.map layV = nV ns ∧ ns.length = l.length ∧ ∀ (d x : Nat), ns[d]? = some x ↔ UM.lay l d = some x := by
  intro l h
  have key : ∀ d, d < l.length → ∃ x, l[d]? = some (some x) := fun d hd => by
    cases e : l[d]'hd with
    | some x => exact ⟨x, by rw [List.getElem?_eq_getElem hd, e]⟩
    | none =>
      have : d ∈ UM.openL l := UM.mem_openL.mpr ⟨hd, by unfold UM.lay; rw [List.getElem?_eq_getElem hd, e]; rfl⟩
      rw [h] at this
      cases this
  refine ⟨l.map fun x => x.getD 0, ?_, List.length_map .., fun d x => ?_⟩
  · unfold nV
    rw [List.map_map]
    refine List.map_congr_left fun x hx => ?_
    obtain ⟨d, hd, rfl⟩ := List.getElem_of_mem hx
    obtain ⟨y, hy⟩ := key d hd
    rw [List.getElem?_eq_getElem hd] at hy
    injection hy with hy
    rw [hy]
    rfl
  · rw [List.getElem?_map]
    unfold UM.lay
    by_cases hd : d < l.length
    · obtain ⟨y, hy⟩ := key d hd
      rw [hy]
      simp
    · rw [List.getElem?_eq_none_iff.mpr (by omega)]
      simp
def spLift (K : PySem.W.Frag) : Sp := fun vs H Q _ => ∃ (b fu : Addr) (n : Nat) (xs ys : List V) (ps : List UM.P) (rws : List UM.Row), vs = [.ref b, .ref fu] ∧ BookAt K H b n xs ps ∧ SqT K H fu ys ∧ SRowsN K H n ys rws ∧ Four n ∧ xs.length ≤ 12 ∧ ys.length ≤ 1 ∧
  ∀ H' r l, Same H H' → UM.Done (UM.rowsU ps ++ rws) n l → LiftAns K H' r l → Q (.ref r) H'
theorem sc_lift : FnScope ["book", "further", "sayings", "found", "heights", "open_days", "reasons", "day", "layer"] ["book", "further"] (defScope (top 57)) := ⟨rfl, rfl, rfl, by decide +kernel, rfl, by decide +kernel, by decide +kernel⟩
theorem ok_lift (T : Txt K mg) : Oks P w K mg base 5 (ga K "lift") (spStar (spLift K)) := by
  obtain ⟨fd, F⟩ := T.d_lift
  obtain ⟨_, G_all_sayings, b_all_sayings, k_all_sayings⟩ := ok_all_sayings (P := P) (w := w) (base := base) T
  obtain ⟨_, G_lifting_of, b_lifting_of, k_lifting_of⟩ := ok_lifting_of (P := P) (w := w) (base := base) T
  obtain ⟨_, G_Lifting_open_days, b_Lifting_open_days, k_Lifting_open_days⟩ := ok_Lifting_open_days (P := P) (w := w) (base := base) T
  obtain ⟨_, G_Lifted_init, b_Lifted_init, k_Lifted_init⟩ := ok_Lifted_init (P := P) (w := w) (base := base) T
  obtain ⟨_, G_Order_init, b_Order_init, k_Order_init⟩ := ok_Order_init (P := P) (w := w) (base := base) T
  obtain ⟨_, G_Stuck_init, b_Stuck_init, k_Stuck_init⟩ := ok_Stuck_init (P := P) (w := w) (base := base) T
  refine star_of F (p1 := "book") (pv := "further") sc_lift (fun _ _ _ _ _ _ _ => rfl) (fun _ _ _ _ _ _ _ _ _ => rfl) fun cdv A outer s H vs Q E hr h => ?_
  obtain ⟨b, fu, n, xs, ys, ps, rws, rfl, hB, hfu, hr2, hn4, hx, hy, q⟩ := h
  refine ⟨_, PSs.nox (pss_cons (ps_set (i := 2) sc_lift.nd rfl (Or.inl rfl) (pe_call G_all_sayings (hr.mono (by decide)) rfl T.g_all_sayings k_all_sayings b_all_sayings .nil pass0 (pa_cons (pv 0) (pa_cons (pv 1) pa_nil))))
      (pss_cons (ps_set (i := 3) sc_lift.nd rfl (Or.inr rfl) (pe_call G_lifting_of (hr.mono (by decide)) rfl T.g_lifting_of k_lifting_of b_lifting_of .nil pass0 (pa_cons (pv 2) (pa_cons (pe_op op_rep (pe_lst (pa_cons pe_int pa_nil)) (pe_fld (pe_fld (pv 0) rfl) rfl)) pa_nil))))
      (pss_cons (ps_set (i := 4) sc_lift.nd rfl (Or.inl rfl) (pe_callTy call_tuple_of (by rfl) T.b_tuple (by decide +kernel) (pa_cons (pe_fld (pv 3) rfl) pa_nil)))
      (pss_cons (ps_set (i := 5) sc_lift.nd rfl (Or.inl rfl) (pe_meth0 (pv 3) T.c_Lifting T.m_Lifting_open_days G_Lifting_open_days (hr.mono (by decide)) b_Lifting_open_days .nil pass0))
      (pss_cons (ps_if (pt_cmpR (op_eqD hr.units) (pv 5) (pe_lst pa_nil) (nomark _)) (pss_one (ps_ret (pe_make T.mk_Lifted G_Lifted_init (hr.mono (by decide)) rfl T.g_Lifted b_Lifted_init .nil pass0 (pa_cons (pe_make T.mk_Order G_Order_init (hr.mono (by decide)) rfl T.g_Order b_Order_init .nil pass0 (pa_cons (pe_fld (pv 3) rfl) pa_nil)) (pa_cons (pe_callTy call_tuple_of (by rfl) T.b_tuple (by decide +kernel) (pa_cons (pe_fld (pv 3) rfl) pa_nil)) (pa_cons (pv 4) pa_nil)))))) pss_nil)
      (pss_cons (ps_set (i := 6) sc_lift.nd rfl (Or.inl rfl) (pe_callTy call_tuple_of (by rfl) T.b_tuple (by decide +kernel) (pa_cons (pe_lc (own := [("day", 7), ("layer", 8)]) rfl sc_lift.nd (pi_enum (by rfl) T.b_enumerate (pa_cons (pe_fld (pv 3) rfl) pa_nil)) (blkOk_by (own := [("day", 7), ("layer", 8)]) (N := ["book", "further", "sayings", "found", "heights", "open_days", "reasons", "day", "layer"]) (sc := defScope (top 57)) (by decide +kernel)) (fun _ _ _ _ _ => (kgtup (K := K) (n := 2) rfl (pgs_cons (pg_name (i := 7) sc_lift.nd rfl (Or.inl rfl)) (pgs_cons (pg_name (i := 8) sc_lift.nd rfl (Or.inl rfl)) pgs_nil)) rfl)) (fun _ _ _ _ _ => pts_nil) (fun _ _ _ _ _ => (pe_ifExp (pt_cmpR op_isN (pv 8) pe_non (nomark _)) (kix (K := K) (kfld (K := K) (pv 3) rfl rfl) (pv 7) (fun _ _ => rfl) rfl) pe_non))) pa_nil))) (pss_one (ps_ret (pe_make T.mk_Stuck G_Stuck_init (hr.mono (by decide)) rfl T.g_Stuck b_Stuck_init .nil pass0 (pa_cons (pe_callB (cr_sum rfl) (by rfl) T.b_sum (by decide +kernel) (pa_cons (pe_lc (own := [("day", 7)]) rfl sc_lift.nd (pi_list (pv 5)) (blkOk_by (own := [("day", 7)]) (N := ["book", "further", "sayings", "found", "heights", "open_days", "reasons", "day", "layer"]) (sc := defScope (top 57)) (by decide +kernel)) (fun _ _ _ _ _ => (pg_name (i := 7) sc_lift.nd rfl (Or.inl rfl))) (fun _ _ _ _ _ => pts_nil) (fun _ _ _ _ _ => (pe_op op_shl pe_int (pv 7)))) pa_nil)) (pa_cons (pv 6) (pa_cons (pv 4) pa_nil)))))))))))), ?_⟩
  have hn0 : 0 < n := by rcases hn4 with h | h | h | h <;> omega
  have hn : n ≤ 16 := by rcases hn4 with h | h | h | h <;> omega
  obtain ⟨m, t', hb0, hm, ht, hs⟩ := id hB
  have f1 := hb0.f_marks T; have f2 := hm.f_days T
  walk_at "rd"
  refine ⟨b, fu, n, xs, ys, ps, _, rfl, hB, hfu, hr2, hn, hx, hy, fun H2 r e2 hr2' => ?_⟩
  walk_at "rd"
  refine ⟨by show 1 ≤ sizeLine; decide, fun z hz => ?_⟩
  have e3 : Same H2 (upd H2 z (.lst [.int 0])) := Same.new hz
  have e23 := e2.trans e3
  walk_at "rd"
  refine ⟨_, _, _, rfl, rfl, upd_same, by omega, by omega, by rw [Int.toNat_natCast]; exact Nat.le_trans (by show 1 * n ≤ 16; omega) (by decide), fun st hst => ?_⟩
  walk_at "rd"
  have e4 := Same.push e3 hst (o := .lst (List.replicate (n : Int).toNat [V.int 0]).flatten)
  have e24 := e2.trans e4
  refine ⟨r, st, n, xs ++ ys, UM.rowsU ps ++ rws, rfl, SqL.of (e4 _ _ hr2'), SRows.append ((SRowsN.of hs).weak.mono e24) (hr2.weak.mono e24), SqL.of ?_, hn0, hn, by rw [List.length_append]; omega, fun H0' H3 pl l s0 hd hL => ?_⟩
  · rw [upd_same, Int.toNat_natCast, flat_rep]
  · obtain ⟨rw_, st2, la, re, he, kn, xs2, rs, hs2, s2', p0, la0, re0, he0, nlr, nlh, nrh, hp2, hk, hla, hre, hhe, hrs, hhs, hln, _⟩ := hL
    have g1 := hp2.f_layers T
    have g2 := hp2.f_heights T
    have g3 := hp2.f_reasons T
    have eH3 : Same H H3 := e24.trans (s0.trans s2')
    walk_at "rd"
    refine ⟨he, _, rfl, .inl ⟨SqL.of hhe, fun z2 hz2 => ?_⟩⟩
    have e5 : Same H3 (upd H3 z2 (.tup hs2)) := Same.new hz2
    walk_at "rd"
    have hp5 := hp2.mono e5
    obtain ⟨dx, fs, hpe, hlk⟩ := hp5.m_open_days
    refine ⟨pl, dx, fs, rfl, hpe, hlk, ?_⟩
    refine ⟨pl, rw_, st2, la, re, he, kn, l, rfl, hp5, e5 _ _ hla, by omega, fun H6 R6 e6 hR hR6 => ?_⟩
    have e56 := e5.trans e6
    walk_at "rd"
    refine ⟨by show 0 ≤ sizeLine; decide, fun eb heb => eq_empty (SqL.of (get_push heb hR6)) dV_flat (SqL.of upd_same) ?_⟩
    have e7 := Same.push e56 heb (o := .lst [])
    have hR7 := get_push (u := .lst []) heb hR6
    revert e7 hR7
    generalize upd H6 eb (.lst []) = H7
    intro e7 hR7
    by_cases hop : UM.openL l = []
    · rw [hop]
      walk_at "rd"
      intro x dx nx ndx nex
      obtain ⟨ns, hns, hnl, hget⟩ := full_layers hop
      refine ⟨H7, x, dx, la, ns, rfl, upd_same, Same.mk nx ndx, nx, SqL.of (by rw [← hns]; exact e7 _ _ hla), by rw [hnl, hln]; exact hn4, fun y hy => ?_, ?_, fun H8 e8 ho => ⟨rfl, ?_⟩⟩
      · obtain ⟨d, hd2, rfl⟩ := List.getElem_of_mem hy
        have := hd.small d _ ((hget d _).mp (List.getElem?_eq_getElem hd2))
        exact Nat.le_trans (Nat.le_of_lt this) (Nat.le_trans hn (by decide))
      · rcases hd.zero with h | ⟨d, h⟩
        · have : 0 ∈ UM.openL l := UM.mem_openL.mpr ⟨by omega, h 0⟩
          rw [hop] at this
          cases this
        · exact List.mem_of_getElem? ((hget d 0).mpr h)
      · walk_at "rd"
        refine ⟨re, _, rfl, .inl ⟨SqL.of (e8 _ _ (e7 _ _ hre)), fun z3 hz3 => ?_⟩⟩
        walk_at "rd"
        intro x2 dx2 nx2 ndx2 nex2
        have e9 : Same H8 (upd H8 z3 (.tup rs)) := Same.new hz3
        exact ⟨_, x2, dx2, _, _, _, rfl, upd_same, Same.mk nx2 ndx2, nx2, fun H9 e10 hlt => ⟨rfl, q H9 x2 l (eH3.trans (e7.trans (e8.trans (e9.trans e10)))) hd (.inl ⟨hop, _, hlt⟩)⟩⟩
    · have : (List.map (fun (d : Nat) => V.int (d : Int)) (UM.openL l)).isEmpty = false := by
        cases h : UM.openL l with
        | nil => exact absurd h hop
        | cons => rfl
      rw [this]
      walk_at "rd"
      refine ⟨la, _, rfl, SqL.of (e7 _ _ hla), fun D hD => lc_it (walk_enum (K := K) (a := la) (xs := l.map layV)) (fun i H' => Same H7 H' ∧ ∃ acc, H' D = some (.lst acc) ∧ acc.length = i) ⟨Same.new hD, [], upd_same, rfl⟩ (fun i H' _ h => SqL.of (h.1 _ _ (e7 _ _ hla))) ?_ ?_⟩
      · rintro i x H8 H9 hi ⟨e8, acc, h8, h8l⟩ ⟨Tp, y1, y2, rfl, hT, rfl, hy1, hy2⟩
        cases hy1
        rw [List.length_map, hln] at hi
        obtain ⟨v, hv, rfl⟩ := get_map hy2
        have e9 : Same H7 (upd H8 Tp (.tup [.int (i : Nat), layV v])) := Same.push e8 hT
        have nD : D ≠ Tp := ne_of_none h8 hT
        have g3' := (g3.mono e7).mono e9
        have fin : ∀ y : V, ∃ acc, upd H8 Tp (.tup [.int (i : Nat), layV v]) D = some (.lst acc) ∧ acc.length < sizeLine ∧ (Same H7 (upd (upd H8 Tp (.tup [.int (i : Nat), layV v])) D (.lst (acc ++ [y]))) ∧ ∃ acc', upd (upd H8 Tp (.tup [.int (i : Nat), layV v])) D (.lst (acc ++ [y])) D = some (.lst acc') ∧ acc'.length = i + 1) := fun y =>
          ⟨acc, by rw [upd_ne nD]; exact h8, by rw [h8l]; exact Nat.lt_of_lt_of_le (by omega : i < 16) (by decide), Same.own e9 hD, _, upd_same, by rw [List.length_append, h8l]; rfl⟩
        walk_at "rd"
        cases v with
        | none =>
          walk_at "rd"
          obtain ⟨y, hy⟩ : ∃ y, rs[i]? = some y := ⟨_, List.getElem?_eq_getElem (by omega)⟩
          refine ⟨_, _, _, _, rfl, rfl, SqL.of (e9 _ _ (e7 _ _ hre)), atI_nat hy, ?_⟩
          exact fin y
        | some v =>
          walk_at "rd"
          exact fin _
      · rintro H8 ⟨e8, acc, h8, h8l⟩
        walk_at "rd"
        refine ⟨D, acc, rfl, .inl ⟨SqL.of h8, fun tz htz => ?_⟩⟩
        have e9 : Same H7 (upd H8 tz (.tup acc)) := Same.push e8 htz
        have hR9 := e9 _ _ hR7
        revert e9 hR9
        generalize upd H8 tz (.tup acc) = H9
        intro e9 hR9
        walk_at "rd"
        refine ⟨⟨_, SqL.of hR9⟩, fun C hC => lc_it (walk_list (K := K) (a := R6) (xs := dV (UM.openL l))) (fun i H' => Same H9 H' ∧ H' C = some (.lst (((UM.openL l).take i).map fun (d : Nat) => V.int ((2 ^ d : Nat) : Int)))) ⟨Same.new hC, upd_same⟩ (fun i H' _ h => SqL.of (h.1 _ _ hR9)) ?_ ?_⟩
        · rintro i x H10 H11 hi ⟨e10, h10⟩ ⟨rfl, hx⟩
          obtain ⟨d, hd2, rfl⟩ := get_map hx
          have hdl := (UM.mem_openL.mp (List.mem_of_getElem? hd2)).1
          walk_at "rd"
          refine ⟨⟨Int.natCast_nonneg _, by omega, by decide⟩, ?_⟩
          walk_at "rd"
          refine ⟨_, h10, ?_, Same.own e10 hC, ?_⟩
          · rw [List.length_map, List.length_take ]
            exact Nat.lt_of_le_of_lt (Nat.min_le_left _ _) (Nat.lt_of_lt_of_le (m := 17) (by have := UM.fm_len (fun i (x : Option Nat) => if x = none then some i else none) l; rw [dV_len] at hi; have : (UM.openL l).length ≤ l.length := this; omega) (by decide))
          · simp only [shl_one]
            rw [upd_same, List.take_add_one, hd2, List.map_append]
            rfl
        · rintro H10 ⟨e10, h10⟩
          rw [dV_len, List.take_length] at h10
          walk_at "rd"
          refine ⟨C, (UM.openL l).map fun (d : Nat) => ((2 ^ d : Nat) : Int), rfl, SqL.of (by rw [List.map_map]; exact h10), ?_⟩
          walk_at "rd"
          intro x2 dx2 nx2 ndx2 nex2
          exact ⟨_, x2, dx2, _, _, _, rfl, upd_same, Same.mk nx2 ndx2, nx2, fun H11 e11 hlt => ⟨rfl, q H11 x2 l (eH3.trans (e7.trans (e9.trans (e10.trans e11)))) hd (.inr ⟨hop, hlt⟩)⟩⟩
end
end U
set_option maxHeartbeats 4100000
namespace U
open PySem L2 He
local macro_rules | `(tactic| walk_at "same") => `(tactic| first | (with_reducible assumption) | exact Same.refl _ | (refine Same.push ?_ (by assumption); walk_at "same") | (refine Same.own ?_ (by assumption); walk_at "same") | (refine Same.trans ?_ (by with_reducible assumption); walk_at "same"))
local macro_rules | `(tactic| walk_at "get") => `(tactic| first | assumption | exact upd_same | (refine get_push (by assumption) ?_; walk_at "get") | (refine get_ne (by assumption) ?_; walk_at "get") | (refine get_ne' (by assumption) ?_; walk_at "get") | (refine Same.get ?_ (by assumption); walk_at "same"))
local macro_rules | `(tactic| walk_at "has") => `(tactic| first | assumption | (refine Has.mono ?_ (by assumption); walk_at "same"))
local macro_rules | `(tactic| walk_at "sql") => `(tactic| first | assumption | exact SqL.of upd_same | exact SqL.of (by assumption) | (refine Same.seq ?_ (by assumption); walk_at "same") | (refine SqL.of ?_; walk_at "get"))
local macro_rules | `(tactic| walk_at "sqt") => `(tactic| first | assumption | exact SqT.of upd_same | exact SqT.of (by assumption) | (refine Same.tup ?_ (by assumption); walk_at "same") | (refine SqT.of ?_; walk_at "get"))
local macro_rules | `(tactic| walk_at "r1") => `(tactic| first | ((with_reducible refine ite_tt ?_ ?_); (focus exact rfl)) | ((with_reducible refine ite_ff ?_ ?_); (focus exact rfl)) | refine ⟨_, rfl, ?_⟩ | refine ⟨_, _, rfl, rfl, ?_⟩ | (refine ⟨rfl, ?_⟩) | refine ⟨(Int.natCast_nonneg _ : (0 : Int) ≤ _), ?_⟩ | refine ⟨_, _, rfl, ?_⟩ | refine ⟨_, _, _, rfl, ?_⟩ | (refine Has.ans (by walk_at "has") ?_) | refine ⟨_, _, _, _, rfl, rfl, (by walk_at "sql"), rfl, ?_⟩ | refine ⟨_, _, rfl, .inl (by walk_at "sql"), ?_⟩ | refine ⟨_, _, rfl, .inr (by walk_at "sqt"), ?_⟩ | refine ⟨_, _, _, _, rfl, rfl, (by walk_at "sqt"), rfl, ?_⟩ | refine ⟨_, _, rfl, (by walk_at "sqt"), rfl, ?_⟩ | refine ⟨_, _, _, _, rfl, (by walk_at "get"), (by assumption), (by assumption), (by walk_at "len"), ?_⟩ | refine ⟨_, _, _, _, _, rfl, (by walk_at "get"), (by assumption), (by assumption), (by walk_at "lk"), ?_⟩)
local macro_rules | `(tactic| walk_at "rd") => `(tactic| repeat walk_at "r1")
local macro_rules | `(tactic| walk_at "lk") => `(tactic| first | (with_reducible exact lk_hit) | (refine lk_miss (by decide +kernel) ?_; walk_at "lk") | rfl)
local macro_rules | `(tactic| walk_at "len") => `(tactic| (refine Nat.lt_of_le_of_lt (m := 60) ?_ (by decide); (repeat (refine len_put ?_)); exact Nat.zero_le _))
local macro_rules | `(tactic| walk_at "len9") => `(tactic| (refine Nat.le_trans (m := 60) ?_ (by decide); (repeat (refine len_put ?_)); exact Nat.zero_le _))
local macro_rules | `(tactic| walk_at "own") => `(tactic| first | assumption | (refine Same.own ?_ (by assumption); walk_at "own"))

section
variable {P : Program} {w : World} {base : Heap}
variable {K : PySem.W.Frag} {mg : Str → Option Value}
def TellAns (K : PySem.W.Frag) (H : Hp) (r : Addr) (l : UM.Lay) : Prop := (UM.openL l = [] ∧ NotAt K H r) ∨ (UM.openL l ≠ [] ∧ ToldAt K H r)
def spTell (K : PySem.W.Frag) : Sp := fun vs H Q _ => ∃ (b a : Addr) (n : Nat) (xs : List V) (ps : List UM.P) (c b' t : Nat), vs = [.ref b, .ref a] ∧ BookAt K H b n xs ps ∧ SayAt K H a c b' t true ∧ SayP n c b' t ∧ Four n ∧ xs.length ≤ 12 ∧
  ∀ H' r l, Same H H' → UM.Done (UM.rowsU ps ++ [UM.rowC (c, b')]) n l → TellAns K H' r l → Q (.ref r) H'
theorem sc_tell : FnScope ["book", "saying", "found"] ["book", "saying"] (defScope (top 91)) := ⟨rfl, rfl, rfl, by decide +kernel, rfl, by decide +kernel, by decide +kernel⟩
theorem ok_tell (T : Txt K mg) : Ok P w K mg base 6 (ga K "tell") ["book", "saying"] (spTell K) := by
  obtain ⟨fd, F⟩ := T.d_tell
  obtain ⟨G_lift, k_lift⟩ := ok_lift (P := P) (w := w) (base := base) T
  obtain ⟨_, G_Saying_contrary, b_Saying_contrary, k_Saying_contrary⟩ := ok_Saying_contrary (P := P) (w := w) (base := base) T
  obtain ⟨_, G_Told_init, b_Told_init, k_Told_init⟩ := ok_Told_init (P := P) (w := w) (base := base) T
  obtain ⟨_, G_NotTold_init, b_NotTold_init, k_NotTold_init⟩ := ok_NotTold_init (P := P) (w := w) (base := base) T
  refine ⟨_, F.ok sc_tell (fun vs H Q E h => ?_) (fun cdv A outer s H vs Q E hr h => ?_), F.binds fun _ _ _ _ _ _ us hl => match us, hl with | [_, _], _ => rfl, F.kp⟩
  · obtain ⟨b, a, n, xs, ps, c, b', t, rfl, _⟩ := h
    rfl
  · obtain ⟨b, a, n, xs, ps, c, b', t, rfl, hB, ha, hP, hn4, hx, q⟩ := h
    refine ⟨_, (pss_cons (ps_set (i := 2) sc_tell.nd rfl (Or.inl rfl) (pe_callF G_lift (hr.mono (by decide)) rfl T.g_lift k_lift pass0 (pa_cons (pv 0) (pa_cons (pe_meth0 (pv 1) T.c_Saying T.m_Saying_contrary G_Saying_contrary (hr.mono (by decide)) b_Saying_contrary .nil pass0) pa_nil))))
      (pss_cons (ps_if (pt_val (pe_callB call_isi (by rfl) T.b_isinstance (by decide +kernel) (pa_cons (pv 2) (pa_cons (pe_glob (v := .ref (ga K "Stuck")) rfl T.g_Stuck rfl) pa_nil)))) (pss_one (ps_ret (pe_make T.mk_Told G_Told_init (hr.mono (by decide)) rfl T.g_Told b_Told_init .nil pass0 (pa_cons (pv 2) pa_nil)))) pss_nil) (pss_one (ps_ret (pe_make T.mk_NotTold G_NotTold_init (hr.mono (by decide)) rfl T.g_NotTold b_NotTold_init .nil pass0 (pa_cons (pe_fld (pv 2) rfl) pa_nil)))))), ?_⟩
    walk_at "rd"
    obtain ⟨dx, fs, hpe, hlk⟩ := ha.m_contrary
    refine ⟨a, dx, fs, rfl, hpe, hlk, ?_⟩
    walk_at "rd"
    refine ⟨a, n, c, b', t, true, rfl, ha, hP, fun H1 r1 e1 h1 => ?_⟩
    walk_at "rd"
    refine ⟨[V.ref b], [V.ref r1], rfl, rfl, by show 1 ≤ sizeLine; decide, fun p hp => ?_⟩
    have e2 : Same H1 (upd H1 p (.tup [.ref r1])) := Same.new hp
    have e12 := e1.trans e2
    refine ⟨b, p, n, xs, [.ref r1], ps, _, rfl, hB.mono e12, SqT.of upd_same, SRowsN.one (h1.mono e2) hP, hn4, hx, Nat.le_refl _, fun H2 r l e3 hd hL => ?_⟩
    have e123 := e12.trans e3
    rcases hL with ⟨ho, o, hlt⟩ | ⟨ho, hst⟩
    · walk_at "rd"
      refine ⟨_, _, _, _, false, rfl, .own _, hlt.ty T, T.i_Lifted_Stuck, ?_⟩
      have g1 := hlt.f_order T
      walk_at "rd"
      intro x2 dx2 nx2 ndx2 nex2
      exact ⟨_, x2, dx2, _, rfl, upd_same, Same.mk nx2 ndx2, nx2, fun H4 e4 hlt => ⟨rfl, q H4 x2 l (e123.trans e4) hd (.inl ⟨ho, hlt⟩)⟩⟩
    · walk_at "rd"
      refine ⟨_, _, _, _, true, rfl, .own _, hst.ty T, T.i_Stuck_Stuck, ?_⟩
      walk_at "rd"
      intro x2 dx2 nx2 ndx2 nex2
      exact ⟨_, x2, dx2, _, rfl, upd_same, Same.mk nx2 ndx2, nx2, fun H4 e4 hlt => ⟨rfl, q H4 x2 l (e123.trans e4) hd (.inr ⟨ho, hlt⟩)⟩⟩
def spCheckD (K : PySem.W.Frag) : Sp := fun vs H Q _ => ∃ (n c b t : Nat) (u : Bool) (a : Addr), vs = [.int n, .ref a] ∧ SayAt K H a c b t u ∧ SayP n c b t ∧ Q .non H
theorem sc_check_days_doubts : FnScope ["days", "saying"] ["days", "saying"] (defScope (top 29)) := ⟨rfl, rfl, rfl, by decide +kernel, rfl, by decide +kernel, by decide +kernel⟩
theorem ok_check_days_doubts (T : Txt K mg) : Ok P w K mg base 1 (ga K "check_days_doubts") ["days", "saying"] (spCheckD K) := by
  obtain ⟨fd, F⟩ := T.d_check_days_doubts
  refine ⟨_, F.ok sc_check_days_doubts (fun vs H Q E h => ?_) (fun cdv A outer s H vs Q E hr h => ?_), F.binds fun _ _ _ _ _ _ us hl => match us, hl with | [_, _], _ => rfl, F.kp⟩
  · obtain ⟨n, c, b, t, u, a, rfl, _⟩ := h
    rfl
  · obtain ⟨n, c, b, t, u, a, rfl, ha, hP, q⟩ := h
    refine ⟨_, (pss_one (ps_if (pt_cmpR op_ne (pe_op op_shr (pe_op op_or (pe_fld (pv 1) rfl) (pe_fld (pv 1) rfl)) (pv 0)) pe_int (nomark _)) (pss_one ps_never) pss_nil)), ?_⟩
    have g1 := ha.f_where T; have g2 := ha.f_then T
    have hn := hP.n16
    walk_at "rd"
    simp only [bit_or]
    rw [shr_zero (Nat.or_lt_two_pow hP.w1 hP.t1)]
    walk_at "rd"
    exact q
def spCheckS (K : PySem.W.Frag) : Sp := fun vs H Q _ => ∃ (n c b t : Nat) (u : Bool) (bk a : Addr) (xs : List V) (ps : List UM.P), vs = [.ref bk, .ref a] ∧ BookAt K H bk n xs ps ∧ SayAt K H a c b t u ∧ SayP n c b t ∧ Q .non H
theorem sc_check_saying_days : FnScope ["book", "saying"] ["book", "saying"] (defScope (top 90)) := ⟨rfl, rfl, rfl, by decide +kernel, rfl, by decide +kernel, by decide +kernel⟩
theorem ok_check_saying_days (T : Txt K mg) : Ok P w K mg base 1 (ga K "check_saying_days") ["book", "saying"] (spCheckS K) := by
  obtain ⟨fd, F⟩ := T.d_check_saying_days
  refine ⟨_, F.ok sc_check_saying_days (fun vs H Q E h => ?_) (fun cdv A outer s H vs Q E hr h => ?_), F.binds fun _ _ _ _ _ _ us hl => match us, hl with | [_, _], _ => rfl, F.kp⟩
  · obtain ⟨n, c, b, t, u, bk, a, xs, ps, rfl, _⟩ := h
    rfl
  · obtain ⟨n, c, b, t, u, bk, a, xs, ps, rfl, ⟨m, t', hb0, hm, ht, hs⟩, ha, hP, q⟩ := h
    refine ⟨_, (pss_one (ps_if (pt_cmpR op_gt (pe_op op_or (pe_fld (pv 1) rfl) (pe_fld (pv 1) rfl)) (pe_fld (pe_fld (pv 0) rfl) rfl) (nomark _)) (pss_one ps_never) pss_nil)), ?_⟩
    have g1 := ha.f_where T; have g2 := ha.f_then T
    have f1 := hb0.f_marks T; have f2 := hm.f_all_days T
    walk_at "rd"
    simp only [bit_or]
    have : decide (((2 ^ n - 1 : Nat) : Int) < ((c ||| b ||| t : Nat) : Int)) = false := decide_eq_false (by have := Nat.or_lt_two_pow hP.w1 hP.t1; omega)
    rw [this]
    walk_at "rd"
    exact q
def spAsked (K : PySem.W.Frag) : Sp := fun vs H Q _ => ∃ (n c b t : Nat) (bk a : Addr) (xs : List V) (ps : List UM.P), vs = [.ref bk, .ref a] ∧ BookAt K H bk n xs ps ∧ SayAt K H a c b t true ∧ SayP n c b t ∧ ∀ H', Same H H' → Q .non H'
theorem sc_check_asked : FnScope ["book", "saying"] ["book", "saying"] (defScope (top 40)) := ⟨rfl, rfl, rfl, by decide +kernel, rfl, by decide +kernel, by decide +kernel⟩
theorem ok_check_asked (T : Txt K mg) : Ok P w K mg base 4 (ga K "check_asked") ["book", "saying"] (spAsked K) := by
  obtain ⟨fd, F⟩ := T.d_check_asked
  obtain ⟨_, G_check_days_doubts, b_check_days_doubts, k_check_days_doubts⟩ := ok_check_days_doubts (P := P) (w := w) (base := base) T
  obtain ⟨G_check_usual, k_check_usual⟩ := ok_check_usual (P := P) (w := w) (base := base) T
  refine ⟨_, F.ok sc_check_asked (fun vs H Q E h => ?_) (fun cdv A outer s H vs Q E hr h => ?_), F.binds fun _ _ _ _ _ _ us hl => match us, hl with | [_, _], _ => rfl, F.kp⟩
  · obtain ⟨n, c, b, t, bk, a, xs, ps, rfl, _⟩ := h
    rfl
  · obtain ⟨n, c, b, t, bk, a, xs, ps, rfl, hB, ha, hP, q⟩ := h
    refine ⟨_, (pss_cons (ps_expr (pe_call G_check_days_doubts (hr.mono (by decide)) rfl T.g_check_days_doubts k_check_days_doubts b_check_days_doubts .nil pass0 (pa_cons (pe_fld (pe_fld (pv 0) rfl) rfl) (pa_cons (pv 1) pa_nil)))) (pss_one (ps_expr (pe_callF G_check_usual (hr.mono (by decide)) rfl T.g_check_usual k_check_usual pass0 (pa_cons (pv 0) (pa_cons (pv 1) pa_nil)))))), ?_⟩
    obtain ⟨m, t', hb0, hm, ht, hs⟩ := id hB
    have f1 := hb0.f_marks T; have f2 := hm.f_days T
    walk_at "rd"
    refine ⟨n, c, b, t, true, a, rfl, ha, hP, ?_⟩
    walk_at "rd"
    refine ⟨[V.ref bk], [V.ref a], rfl, rfl, by show 1 ≤ sizeLine; decide, fun p hp => ?_⟩
    have e2 : Same H (upd H p (.tup [.ref a])) := Same.new hp
    refine ⟨bk, p, n, xs, [.ref a], ps, rfl, hB.mono e2, SqT.of upd_same, fun y hy => ⟨a, c, b, t, List.mem_singleton.mp hy, ha.mono e2⟩, fun H2 e3 => ?_⟩
    walk_at "rd"
    exact q _ (e2.trans e3)
theorem sc_check_all_usual : FnScope ["book", "saying", "number"] ["book", "saying"] (defScope (top 93)) := ⟨rfl, rfl, rfl, by decide +kernel, rfl, by decide +kernel, by decide +kernel⟩
theorem ok_check_all_usual (T : Txt K mg) : Ok P w K mg base 3 (ga K "check_all_usual") ["book", "saying"] (spAsked K) := by
  obtain ⟨fd, F⟩ := T.d_check_all_usual
  obtain ⟨_, G_check_saying_days, b_check_saying_days, k_check_saying_days⟩ := ok_check_saying_days (P := P) (w := w) (base := base) T
  obtain ⟨_, G_Book_first_need_not, b_Book_first_need_not, k_Book_first_need_not⟩ := ok_Book_first_need_not (P := P) (w := w) (base := base) T
  refine ⟨_, F.ok sc_check_all_usual (fun vs H Q E h => ?_) (fun cdv A outer s H vs Q E hr h => ?_), F.binds fun _ _ _ _ _ _ us hl => match us, hl with | [_, _], _ => rfl, F.kp⟩
  · obtain ⟨n, c, b, t, bk, a, xs, ps, rfl, _⟩ := h
    rfl
  · obtain ⟨n, c, b, t, bk, a, xs, ps, rfl, hB, ha, hP, q⟩ := h
    refine ⟨_, (pss_cons (ps_expr (pe_call G_check_saying_days (hr.mono (by decide)) rfl T.g_check_saying_days k_check_saying_days b_check_saying_days .nil pass0 (pa_cons (pv 0) (pa_cons (pv 1) pa_nil))))
      (pss_cons (ps_set (i := 2) sc_check_all_usual.nd rfl (Or.inl rfl) (pe_prop (pv 0) T.c_Book T.m_Book_first_need_not G_Book_first_need_not (hr.mono (by decide)) b_Book_first_need_not .nil pass0 rfl))
      (pss_cons (ps_if (pt_cmpR op_notN (pv 2) pe_non (nomark _)) (pss_one ps_never) pss_nil) (pss_one (ps_if (pt_not (pt_val (pe_fld (pv 1) rfl))) (pss_one ps_never) pss_nil))))), ?_⟩
    obtain ⟨m, t', hb0, hm, ht, hs⟩ := id hB
    obtain ⟨dx, fs, hbe⟩ := hb0.ins
    have g1 := ha.f_usual T
    walk_at "rd"
    refine ⟨n, c, b, t, true, bk, a, xs, ps, rfl, hB, ha, hP, ?_⟩
    walk_at "rd"
    refine ⟨bk, dx, fs, rfl, hbe, bk, n, xs, ps, rfl, hB, fun H1 e1 => ?_⟩
    walk_at "rd"
    exact q _ e1
end
end U
set_option maxHeartbeats 4100000
namespace U
open PySem L2 He
local macro_rules | `(tactic| walk_at "same") => `(tactic| first | (with_reducible assumption) | exact Same.refl _ | (refine Same.push ?_ (by assumption); walk_at "same") | (refine Same.own ?_ (by assumption); walk_at "same") | (refine Same.trans ?_ (by with_reducible assumption); walk_at "same"))
local macro_rules | `(tactic| walk_at "get") => `(tactic| first | assumption | exact upd_same | (refine get_push (by assumption) ?_; walk_at "get") | (refine get_ne (by assumption) ?_; walk_at "get") | (refine get_ne' (by assumption) ?_; walk_at "get") | (refine Same.get ?_ (by assumption); walk_at "same"))
local macro_rules | `(tactic| walk_at "has") => `(tactic| first | assumption | (refine Has.mono ?_ (by assumption); walk_at "same"))
local macro_rules | `(tactic| walk_at "sql") => `(tactic| first | assumption | exact SqL.of upd_same | exact SqL.of (by assumption) | (refine Same.seq ?_ (by assumption); walk_at "same") | (refine SqL.of ?_; walk_at "get"))
local macro_rules | `(tactic| walk_at "sqt") => `(tactic| first | assumption | exact SqT.of upd_same | exact SqT.of (by assumption) | (refine Same.tup ?_ (by assumption); walk_at "same") | (refine SqT.of ?_; walk_at "get"))
local macro_rules | `(tactic| walk_at "r1") => `(tactic| first | ((with_reducible refine ite_tt ?_ ?_); (focus exact rfl)) | ((with_reducible refine ite_ff ?_ ?_); (focus exact rfl)) | refine ⟨_, rfl, ?_⟩ | refine ⟨_, _, rfl, rfl, ?_⟩ | (refine ⟨rfl, ?_⟩) | refine ⟨(Int.natCast_nonneg _ : (0 : Int) ≤ _), ?_⟩ | refine ⟨_, _, rfl, ?_⟩ | refine ⟨_, _, _, rfl, ?_⟩ | (refine Has.ans (by walk_at "has") ?_) | refine ⟨_, _, _, _, rfl, rfl, (by walk_at "sql"), rfl, ?_⟩ | refine ⟨_, _, rfl, .inl (by walk_at "sql"), ?_⟩ | refine ⟨_, _, rfl, .inr (by walk_at "sqt"), ?_⟩ | refine ⟨_, _, _, _, rfl, rfl, (by walk_at "sqt"), rfl, ?_⟩ | refine ⟨_, _, rfl, (by walk_at "sqt"), rfl, ?_⟩ | refine ⟨_, _, _, _, rfl, (by walk_at "get"), (by assumption), (by assumption), (by walk_at "len"), ?_⟩ | refine ⟨_, _, _, _, _, rfl, (by walk_at "get"), (by assumption), (by assumption), (by walk_at "lk"), ?_⟩)
local macro_rules | `(tactic| walk_at "rd") => `(tactic| repeat walk_at "r1")
local macro_rules | `(tactic| walk_at "lk") => `(tactic| first | (with_reducible exact lk_hit) | (refine lk_miss (by decide +kernel) ?_; walk_at "lk") | rfl)
local macro_rules | `(tactic| walk_at "len") => `(tactic| (refine Nat.lt_of_le_of_lt (m := 60) ?_ (by decide); (repeat (refine len_put ?_)); exact Nat.zero_le _))
local macro_rules | `(tactic| walk_at "len9") => `(tactic| (refine Nat.le_trans (m := 60) ?_ (by decide); (repeat (refine len_put ?_)); exact Nat.zero_le _))
local macro_rules | `(tactic| walk_at "own") => `(tactic| first | assumption | (refine Same.own ?_ (by assumption); walk_at "own"))

section
variable {P : Program} {w : World} {base : Heap}
variable {K : PySem.W.Frag} {mg : Str → Option Value}
/-! ### the book -/
def spBookLen (K : PySem.W.Frag) : Sp := fun vs H Q _ => ∃ (b m t : Addr) (xs : List V), vs = [.ref b] ∧ BookAt0 K H b m t ∧ SqT K H t xs ∧ Q (.int xs.length) H
theorem sc_Book_len : FnScope ["self"] ["self"] (defScope (inClass (top 86) 2)) := ⟨rfl, rfl, rfl, by decide +kernel, rfl, by decide +kernel, by decide +kernel⟩
theorem ok_Book_len (T : Txt K mg) : Ok P w K mg base 1 (ma K (ga K "Book") "__len__") ["self"] (spBookLen K) := by
  obtain ⟨fd, F⟩ := T.f_Book_len
  refine ⟨_, F.ok sc_Book_len (fun vs H Q E h => ?_) (fun cdv A outer s H vs Q E hr h => ?_), F.binds fun _ _ _ _ _ _ us hl => match us, hl with | [_], _ => rfl, F.kp⟩
  · obtain ⟨b, m, t, xs, rfl, _⟩ := h
    rfl
  · obtain ⟨b, m, t, xs, rfl, hb0, ht, q⟩ := h
    refine ⟨_, (pss_one (ps_ret (pe_callB call_len_seq (by rfl) T.b_len (by decide +kernel) (pa_cons (pe_fld (pv 0) rfl) pa_nil)))), ?_⟩
    have f1 := hb0.f_sayings T
    walk_at "rd"
    exact q
theorem sc_Book_iter : FnScope ["self"] ["self"] (defScope (inClass (top 86) 3)) := ⟨rfl, rfl, rfl, by decide +kernel, rfl, by decide +kernel, by decide +kernel⟩
theorem iter_Book (T : Txt K mg) {H : Hp} {a m t : Addr} {xs : List V} (outer : List Env) (hb : BookAt0 K H a m t) (ht : SqT K H t xs) (A : Around) (s : Shared) (hr : Room 2 A) (e0 : Env0 P w K mg base A outer s H) :
    codeAny (model P w) A (.call (.ref (ma K (ga K "Book") "__iter__")) ⟨[.ref a], []⟩) (CR CX0 outer P w H s (fun v H' => ∃ it, v = .ref it ∧ H it = Option.none ∧ s.heap.objs.size ≤ it ∧ H' = upd H it (ItTO t it)) E0) s := by
  obtain ⟨fd, F⟩ := T.f_Book_iter
  have hB : Binds K fd ["self"] [] := F.binds fun _ _ _ _ _ _ us hl => match us, hl with | [_], _ => rfl
  have KX : K.In s.heap := e0.mod.kin.keeps fun p o at_ => (e0.bs p o at_).1
  refine run_s (vs := [V.ref a]) F sc_Book_iter hr e0 (hB s [.ref a] KX rfl) (.cons rfl .nil) rfl fun cdv hr' => ?_
  refine ⟨_, PSs.nox (pss_one (ps_ret (pe_callB call_iterT (by rfl) T.b_iter (by decide +kernel) (pa_cons (pe_fld (pv 0) rfl) pa_nil)))), ?_⟩
  have f1 := hb.f_sayings T
  walk_at "rd"
  exact ⟨t, xs, rfl, ht, fun it h1 h2 => ⟨it, rfl, h1, h2, rfl⟩⟩
def spBookIx (K : PySem.W.Frag) : Sp := fun vs H Q _ => ∃ (b m t : Addr) (xs : List V) (i : Nat) (x : V), vs = [.ref b, .int i] ∧ BookAt0 K H b m t ∧ SqT K H t xs ∧ xs[i]? = some x ∧ Q x H
theorem sc_Book_getitem : FnScope ["self", "number"] ["self", "number"] (defScope (inClass (top 86) 4)) := ⟨rfl, rfl, rfl, by decide +kernel, rfl, by decide +kernel, by decide +kernel⟩
theorem ok_Book_getitem (T : Txt K mg) : Ok P w K mg base 2 (ma K (ga K "Book") "__getitem__") ["self", "number"] (spBookIx K) := by
  obtain ⟨fd, F⟩ := T.f_Book_getitem
  obtain ⟨_, G_is_whole, b_is_whole, k_is_whole⟩ := ok_is_whole (P := P) (w := w) (base := base) T
  refine ⟨_, F.ok sc_Book_getitem (fun vs H Q E h => ?_) (fun cdv A outer s H vs Q E hr h => ?_), F.binds fun _ _ _ _ _ _ us hl => match us, hl with | [_, _], _ => rfl, F.kp⟩
  · obtain ⟨b, m, t, xs, i, x, rfl, _⟩ := h
    rfl
  · obtain ⟨b, m, t, xs, i, x, rfl, hb0, ht, hx, q⟩ := h
    refine ⟨_, (pss_cons (ps_if (pt_not (pt_val (pe_call G_is_whole (hr.mono (by decide)) rfl T.g_is_whole k_is_whole b_is_whole .nil pass0 (pa_cons (pv 1) (pa_cons pe_int (pa_cons (pe_op op_sub (pe_callB call_len_seq (by rfl) T.b_len (by decide +kernel) (pa_cons (pe_fld (pv 0) rfl) pa_nil)) pe_int) pa_nil)))))) (pss_one ps_never) pss_nil) (pss_one (ps_ret (pe_ix ix_tup (pe_fld (pv 0) rfl) (pv 1) (fun _ _ => rfl))))), ?_⟩
    have f1 := hb0.f_sayings T
    have hi := (List.getElem?_eq_some_iff.mp hx).1
    walk_at "rd"
    have : (decide ((0 : Int) ≤ (i : Int)) && decide ((i : Int) ≤ (xs.length : Int) - 1)) = true := by simp; omega
    rw [this]
    walk_at "rd"
    exact ⟨_, _, _, _, rfl, rfl, ht, atI_nat hx, q⟩
def spBookInit (K : PySem.W.Frag) : Sp := fun vs H Q _ => ∃ (H0 : Hp) (p dx m l : Addr) (n : Nat) (xs : List V) (ps : List UM.P), vs = [.ref p, .ref m, .ref l] ∧ H p = some (.ins (ga K "Book") dx []) ∧ Same H0 H ∧ H0 p = none ∧ MarksAt K H0 m n ∧ SqL K H0 l xs ∧ SaysOf K H0 n xs ps ∧ xs.length ≤ 12 ∧
  ∀ H', Same H0 H' → BookAt K H' p n xs ps → Q .non H'
theorem sc_Book_init : FnScope ["self", "marks", "sayings", "number", "saying"] ["self", "marks", "sayings"] (defScope (inClass (top 86) 0)) := ⟨rfl, rfl, rfl, by decide +kernel, rfl, by decide +kernel, by decide +kernel⟩
theorem ok_Book_init (T : Txt K mg) : Ok P w K mg base 1 (ma K (ga K "Book") "__init__") ["self", "marks", "sayings"] (spBookInit K) := by
  obtain ⟨fd, F⟩ := T.f_Book_init
  obtain ⟨_, gc_MOST_SAYINGS⟩ := T.c_MOST_SAYINGS
  refine ⟨_, F.ok sc_Book_init (fun vs H Q E h => ?_) (fun cdv A outer s H vs Q E hr h => ?_), F.binds fun _ _ _ _ _ _ us hl => match us, hl with | [_, _, _], _ => rfl, F.kp⟩
  · obtain ⟨H0, p, dx, m, l, n, xs, ps, rfl, _⟩ := h
    rfl
  · obtain ⟨H0, p, dx, m, l, n, xs, ps, rfl, hp, s0, p0, hm, hl, hs, hx, q⟩ := h
    refine ⟨_, (pss_cons (ps_if (pt_not (pt_val (pe_callB call_isi (by rfl) T.b_isinstance (by decide +kernel) (pa_cons (pv 1) (pa_cons (pe_glob (v := .ref (ga K "Marks")) rfl T.g_Marks rfl) pa_nil))))) (pss_one ps_never) pss_nil)
      (pss_cons (ps_if (PW.pt (pw_or (pt_not (pt_val (pe_callB call_isiT (by rfl) T.b_isinstance (by decide +kernel) (pa_cons (pv 2) (pa_cons (pe_tup (pa_cons (pe_bltn (v := .ty "list") rfl T.b_list (by decide +kernel) rfl) (pa_cons (pe_bltn (v := .ty "tuple") rfl T.b_tuple (by decide +kernel) rfl) pa_nil))) pa_nil))))) (pw_or1 (pt_cmpR op_gt (pe_callB call_len_seq (by rfl) T.b_len (by decide +kernel) (pa_cons (pv 2) pa_nil)) (pe_glob (v := .int 12) rfl gc_MOST_SAYINGS ⟨_, rfl⟩) (nomark _))))) (pss_one ps_never) pss_nil)
      (pss_cons (ps_for PassesOwn.never rfl (pi_enum (by rfl) T.b_enumerate (pa_cons (pv 2) pa_nil)) (pg_tup rfl (pgs_cons (pg_name (i := 3) sc_Book_init.nd rfl (Or.inl rfl)) (pgs_cons (pg_name (i := 4) sc_Book_init.nd rfl (Or.inl rfl)) pgs_nil))) (pss_cons (ps_if (pt_not (pt_val (pe_callB call_isi (by rfl) T.b_isinstance (by decide +kernel) (pa_cons (pv 4) (pa_cons (pe_glob (v := .ref (ga K "Saying")) rfl T.g_Saying rfl) pa_nil))))) (pss_one ps_never) pss_nil) (pss_one (ps_if (pt_cmpR op_gt (pe_op op_or (pe_fld (pv 4) rfl) (pe_fld (pv 4) rfl)) (pe_fld (pv 1) rfl) (nomark _)) (pss_one ps_never) pss_nil))))
      (pss_cons (ps_fld (pv 0) (pv 1) rfl) (pss_one (ps_fld (pv 0) (pe_callTy call_tuple_of (by rfl) T.b_tuple (by decide +kernel) (pa_cons (pv 2) pa_nil)) rfl)))))), ?_⟩
    have c_Book := T.c_Book; have n_marks := T.n_Book_marks; have n_sayings := T.n_Book_sayings
    have hmH := hm.mono s0
    have f2 := hmH.f_all_days T
    walk_at "rd"
    refine ⟨_, _, _, _, true, rfl, .own _, hmH.ty T, T.i_Marks_Marks, ?_⟩
    walk_at "rd"
    refine ⟨by show 2 ≤ sizeLine; decide, fun t ht => ?_⟩
    have e1 : Same H (upd H t (.tup [.ty "list", .ty "tuple"])) := Same.new ht
    have hp1 := e1 _ _ hp
    refine ⟨V.ref l, t, _, _, _, true, rfl, upd_same, cls_lt, tyx_lst (e1.seq (s0.seq hl)), any_lt (.inl rfl), ?_⟩
    revert e1 hp1
    generalize upd H t (.tup [.ty "list", .ty "tuple"]) = H1
    intro e1 hp1
    have s1 := s0.trans e1
    walk_at "rd"
    have : decide ((12 : Int) < (xs.length : Int)) = false := decide_eq_false (by omega)
    rw [this]
    walk_at "rd"
    refine ⟨l, xs, rfl, s1.seq hl, for_it (walk_enum (K := K) (a := l) (xs := xs)) (fun i σ H' => ∃ v1 v2 : Option V, Same H1 H' ∧ σ = [some (.ref p), some (.ref m), some (.ref l), v1, v2]) ⟨none, none, Same.refl _, rfl⟩ (fun i σ H' _ h => by obtain ⟨v1, v2, e, _⟩ := h; exact e.seq (s1.seq hl)) ?_ ?_⟩
    · rintro i x σ H2 H3 hi ⟨v1, v2, e2, rfl⟩ ⟨Tp, y1, y2, rfl, hT, rfl, hy1, hy2⟩
      cases hy1
      obtain ⟨pp, a, t', hp1, rfl, hp3, hp4⟩ := hs.2 i y2 hy2
      have e3 : Same H1 (upd H2 Tp (.tup [.int (i : Nat), .ref a])) := Same.push e2 hT
      have s3 := s1.trans e3
      have ha := hp3.mono s3
      have g1 := ha.f_where T; have g2 := ha.f_then T
      have f3 := f2.mono (e1.trans e3)
      walk_at "rd"
      refine ⟨_, _, _, _, true, rfl, .own _, ha.ty T, T.i_Saying_Saying, ?_⟩
      walk_at "rd"
      simp only [bit_or]
      have : decide (((2 ^ n - 1 : Nat) : Int) < ((pp.1 ||| pp.2 ||| t' : Nat) : Int)) = false := decide_eq_false (by have := Nat.or_lt_two_pow hp4.w1 hp4.t1; omega)
      rw [this]
      walk_at "rd"
      exact ⟨_, _, e3, rfl⟩
    · rintro σ H2 ⟨v1, v2, e2, rfl⟩
      have hp2 := e2 _ _ hp1
      have s2 := s1.trans e2
      walk_at "rd"
      refine ⟨l, xs, rfl, .inl ⟨(Same.own s2 p0).seq hl, fun tt htt => ?_⟩⟩
      have ntp : p ≠ tt := by { refine ne_fresh htt ⟨?_, ?_⟩; rotate_left; walk_at "get" }
      walk_at "rd"
      refine q _ (by walk_at "same") ⟨m, tt, ⟨dx, _, upd_same, (by walk_at "lk"), (by walk_at "lk"), (by walk_at "len9")⟩, hm.mono (by walk_at "same"), SqT.of (by walk_at "get"), hs.mono (by walk_at "same")⟩
/-! ### weights -/
def WeiAt (K : PySem.W.Frag) (H : Hp) (p : Addr) (ns : List Nat) : Prop := ∃ t, WeiAt0 K H p t ∧ SqT K H t (nV ns)
theorem WeiAt.mono {H H' : Hp} {p : Addr} {ns : List Nat} (e : Same H H') (h : WeiAt K H p ns) : WeiAt K H' p ns := by
  obtain ⟨t, h1, h2⟩ := h
  exact ⟨t, h1.mono e, Same.tup e h2⟩
def spWeiLen (K : PySem.W.Frag) : Sp := fun vs H Q _ => ∃ (p : Addr) (ns : List Nat), vs = [.ref p] ∧ WeiAt K H p ns ∧ Q (.int ns.length) H
theorem sc_Weights_len : FnScope ["self"] ["self"] (defScope (inClass (top 38) 12)) := ⟨rfl, rfl, rfl, by decide +kernel, rfl, by decide +kernel, by decide +kernel⟩
theorem ok_Weights_len (T : Txt K mg) : Ok P w K mg base 1 (ma K (ga K "Weights") "__len__") ["self"] (spWeiLen K) := by
  obtain ⟨fd, F⟩ := T.f_Weights_len
  refine ⟨_, F.ok sc_Weights_len (fun vs H Q E h => ?_) (fun cdv A outer s H vs Q E hr h => ?_), F.binds fun _ _ _ _ _ _ us hl => match us, hl with | [_], _ => rfl, F.kp⟩
  · obtain ⟨p, ns, rfl, _⟩ := h
    rfl
  · obtain ⟨p, ns, rfl, ⟨t, h0, ht⟩, q⟩ := h
    refine ⟨_, (pss_one (ps_ret (pe_callB call_len_seq (by rfl) T.b_len (by decide +kernel) (pa_cons (pe_fld (pv 0) rfl) pa_nil)))), ?_⟩
    have f1 := h0.f_numbers T
    walk_at "rd"
    rw [nV_len]
    exact q
def spPicked (K : PySem.W.Frag) : Sp := fun vs H Q _ => ∃ (p : Addr) (ns : List Nat) (m : Nat), vs = [.ref p, .int m] ∧ WeiAt K H p ns ∧ m < 2 ^ ns.length ∧ ns.length ≤ 16 ∧ (∀ x ∈ ns, x < 2 ^ 3000) ∧ ∀ H' r, Same H H' → H' r = some (.lst (nV (UM.pick ns m))) → Q (.ref r) H'
theorem sc_Weights_picked : FnScope ["self", "day_set", "day", "number"] ["self", "day_set"] (defScope (inClass (top 38) 4)) := ⟨rfl, rfl, rfl, by decide +kernel, rfl, by decide +kernel, by decide +kernel⟩
theorem ok_Weights_picked (T : Txt K mg) : Ok P w K mg base 1 (ma K (ga K "Weights") "picked") ["self", "day_set"] (spPicked K) := by
  obtain ⟨fd, F⟩ := T.f_Weights_picked
  refine ⟨_, F.ok sc_Weights_picked (fun vs H Q E h => ?_) (fun cdv A outer s H vs Q E hr h => ?_), F.binds fun _ _ _ _ _ _ us hl => match us, hl with | [_, _], _ => rfl, F.kp⟩
  · obtain ⟨p, ns, m, rfl, _⟩ := h
    rfl
  · obtain ⟨p, ns, m, rfl, ⟨t, h0, ht⟩, hm, hn, hx, q⟩ := h
    refine ⟨_, (pss_cons (ps_if (PW.pt (pw_or (pt_not (pt_val (pe_callB call_isi (by rfl) T.b_isinstance (by decide +kernel) (pa_cons (pv 1) (pa_cons (pe_bltn (v := .ty "int") rfl T.b_int (by decide +kernel) rfl) pa_nil))))) (pw_or (pt_val (pe_callB call_isi (by rfl) T.b_isinstance (by decide +kernel) (pa_cons (pv 1) (pa_cons (pe_bltn (v := .ty "bool") rfl T.b_bool (by decide +kernel) rfl) pa_nil)))) (pw_or1 (pt_cmpR op_lt (pv 1) pe_int (nomark _)))))) (pss_one ps_never) pss_nil)
      (pss_cons (ps_if (pt_cmpR op_ne (pe_op op_shr (pv 1) (pe_callB call_len_seq (by rfl) T.b_len (by decide +kernel) (pa_cons (pe_fld (pv 0) rfl) pa_nil))) pe_int (nomark _)) (pss_one ps_never) pss_nil) (pss_one (ps_ret (pe_lc (own := [("day", 2), ("number", 3)]) rfl sc_Weights_picked.nd (pi_enumT (by rfl) T.b_enumerate (pa_cons (pe_fld (pv 0) rfl) pa_nil)) (blkOk_by (own := [("day", 2), ("number", 3)]) (N := ["self", "day_set", "day", "number"]) (sc := defScope (inClass (top 38) 4)) (by decide +kernel)) (fun _ _ _ _ _ => (kgtup (K := K) (n := 2) rfl (pgs_cons (pg_name (i := 2) sc_Weights_picked.nd rfl (Or.inl rfl)) (pgs_cons (pg_name (i := 3) sc_Weights_picked.nd rfl (Or.inl rfl)) pgs_nil)) rfl)) (fun _ _ _ _ _ => pts_nil) (fun _ _ _ _ _ => (pe_op op_mulW (pv 3) (pe_op op_and (pe_op op_shr (pv 1) (pv 2)) pe_int)))))))), ?_⟩
    have f1 := h0.f_numbers T
    walk_at "rd"
    refine ⟨_, _, _, _, true, rfl, .ty _, .base (.int _), kit_ty (by decide +kernel), ?_⟩
    walk_at "rd"
    refine ⟨_, _, _, _, false, rfl, .ty _, .base (.int _), kit_ty (by decide +kernel), ?_⟩
    walk_at "rd"
    simp only [nV_len, shr_zero hm]
    walk_at "rd"
    refine ⟨t, _, rfl, ht, fun D hD => lc_it (walk_enumT (K := K) (a := t) (xs := nV ns)) (fun i H' => Same H H' ∧ H' D = some (.lst (nV (UM.pick (ns.take i) m)))) ⟨Same.new hD, upd_same⟩ (fun i H' _ h => Same.tup h.1 ht) ?_ ?_⟩
    · rintro i x H1 H2 hi ⟨e1, h1⟩ ⟨Tp, y1, y2, rfl, hT, rfl, hy1, hy2⟩
      cases hy1
      rw [nV_len] at hi
      obtain ⟨v, hv, rfl⟩ := get_map hy2
      have e2 : Same H (upd H1 Tp (.tup [.int (i : Nat), .int (v : Nat)])) := Same.push e1 hT
      have nD : D ≠ Tp := ne_of_none h1 hT
      have hvx := hx v (List.mem_of_getElem? hv)
      walk_at "rd"
      simp only [bit_one]
      have hb2 : m / 2 ^ i % 2 < 2 ^ 1 := Nat.mod_lt _ (by decide)
      refine ⟨wide_mul (nlt hvx) (nlt hb2) (by decide) (by decide) (by decide), ?_⟩
      have ep : UM.pick (ns.take (i + 1)) m = UM.pick (ns.take i) m ++ [v * (m / 2 ^ i % 2)] := by
        unfold UM.pick
        rw [UM.fm_succ _ hv]
        rfl
      refine ⟨_, by rw [upd_ne nD]; exact h1, ?_, Same.own e2 hD, ?_⟩
      · rw [nV_len]
        exact Nat.lt_of_le_of_lt (UM.fm_len_take _ ns i) (Nat.lt_of_lt_of_le (by omega : i < 16) (by decide))
      · rw [upd_same, ep]
        unfold nV
        rw [List.map_append, List.map_singleton, Int.natCast_mul]
    · rintro H1 ⟨e1, h1⟩
      rw [nV_len, List.take_length] at h1
      walk_at "rd"
      exact q H1 D e1 h1
def spOf (K : PySem.W.Frag) : Sp := fun vs H Q _ => ∃ (p : Addr) (ns : List Nat) (m : Nat), vs = [.ref p, .int m] ∧ WeiAt K H p ns ∧ m < 2 ^ ns.length ∧ ns.length ≤ 16 ∧ (∀ x ∈ ns, x < 2 ^ 3000) ∧ ∀ H', Same H H' → Q (.int (UM.wt ns m : Nat)) H'
theorem sum_nat (xs : List Nat) : (xs.map fun (d : Nat) => (d : Int)).sum = ((xs.sum : Nat) : Int) := by
  induction xs with
  | nil => rfl
  | cons x xs ih => rw [List.map_cons, List.sum_cons, List.sum_cons, ih, Int.natCast_add]
theorem sc_Weights_of : FnScope ["self", "day_set"] ["self", "day_set"] (defScope (inClass (top 38) 5)) := ⟨rfl, rfl, rfl, by decide +kernel, rfl, by decide +kernel, by decide +kernel⟩
theorem ok_Weights_of (T : Txt K mg) : Ok P w K mg base 2 (ma K (ga K "Weights") "of") ["self", "day_set"] (spOf K) := by
  obtain ⟨fd, F⟩ := T.f_Weights_of
  obtain ⟨_, G_Weights_picked, b_Weights_picked, k_Weights_picked⟩ := ok_Weights_picked (P := P) (w := w) (base := base) T
  refine ⟨_, F.ok sc_Weights_of (fun vs H Q E h => ?_) (fun cdv A outer s H vs Q E hr h => ?_), F.binds fun _ _ _ _ _ _ us hl => match us, hl with | [_, _], _ => rfl, F.kp⟩
  · obtain ⟨p, ns, m, rfl, _⟩ := h
    rfl
  · obtain ⟨p, ns, m, rfl, hW, hm, hn, hx, q⟩ := h
    refine ⟨_, (pss_one (ps_ret (pe_callB (cr_sum rfl) (by rfl) T.b_sum (by decide +kernel) (pa_cons (pe_meth (pv 0) T.c_Weights T.m_Weights_picked G_Weights_picked (hr.mono (by decide)) b_Weights_picked .nil pass0 (pa_cons (pv 1) pa_nil)) pa_nil)))), ?_⟩
    obtain ⟨t, h0, ht⟩ := id hW
    obtain ⟨dx, fs, hpe, hlk⟩ := h0.m_picked
    walk_at "rd"
    refine ⟨p, dx, fs, rfl, hpe, hlk, ?_⟩
    walk_at "rd"
    refine ⟨p, ns, m, rfl, hW, hm, hn, hx, fun H1 r e1 hr => ?_⟩
    walk_at "rd"
    refine ⟨r, (UM.pick ns m).map fun (d : Nat) => (d : Int), rfl, SqL.of (by rw [List.map_map]; exact hr), ?_⟩
    rw [sum_nat, UM.pick_sum]
    exact q H1 e1
end
end U
set_option maxHeartbeats 4100000
namespace U
open PySem L2 He
local macro_rules | `(tactic| walk_at "same") => `(tactic| first | (with_reducible assumption) | exact Same.refl _ | (refine Same.push ?_ (by assumption); walk_at "same") | (refine Same.own ?_ (by assumption); walk_at "same") | (refine Same.trans ?_ (by with_reducible assumption); walk_at "same"))
local macro_rules | `(tactic| walk_at "get") => `(tactic| first | assumption | exact upd_same | (refine get_push (by assumption) ?_; walk_at "get") | (refine get_ne (by assumption) ?_; walk_at "get") | (refine get_ne' (by assumption) ?_; walk_at "get") | (refine Same.get ?_ (by assumption); walk_at "same"))
local macro_rules | `(tactic| walk_at "has") => `(tactic| first | assumption | (refine Has.mono ?_ (by assumption); walk_at "same"))
local macro_rules | `(tactic| walk_at "sql") => `(tactic| first | assumption | exact SqL.of upd_same | exact SqL.of (by assumption) | (refine Same.seq ?_ (by assumption); walk_at "same") | (refine SqL.of ?_; walk_at "get"))
local macro_rules | `(tactic| walk_at "sqt") => `(tactic| first | assumption | exact SqT.of upd_same | exact SqT.of (by assumption) | (refine Same.tup ?_ (by assumption); walk_at "same") | (refine SqT.of ?_; walk_at "get"))
local macro_rules | `(tactic| walk_at "r1") => `(tactic| first | ((with_reducible refine ite_tt ?_ ?_); (focus exact rfl)) | ((with_reducible refine ite_ff ?_ ?_); (focus exact rfl)) | refine ⟨_, rfl, ?_⟩ | refine ⟨_, _, rfl, rfl, ?_⟩ | (refine ⟨rfl, ?_⟩) | refine ⟨(Int.natCast_nonneg _ : (0 : Int) ≤ _), ?_⟩ | refine ⟨_, _, rfl, ?_⟩ | refine ⟨_, _, _, rfl, ?_⟩ | (refine Has.ans (by walk_at "has") ?_) | refine ⟨_, _, _, _, rfl, rfl, (by walk_at "sql"), rfl, ?_⟩ | refine ⟨_, _, rfl, .inl (by walk_at "sql"), ?_⟩ | refine ⟨_, _, rfl, .inr (by walk_at "sqt"), ?_⟩ | refine ⟨_, _, _, _, rfl, rfl, (by walk_at "sqt"), rfl, ?_⟩ | refine ⟨_, _, rfl, (by walk_at "sqt"), rfl, ?_⟩ | refine ⟨_, _, _, _, rfl, (by walk_at "get"), (by assumption), (by assumption), (by walk_at "len"), ?_⟩ | refine ⟨_, _, _, _, _, rfl, (by walk_at "get"), (by assumption), (by assumption), (by walk_at "lk"), ?_⟩)
local macro_rules | `(tactic| walk_at "rd") => `(tactic| repeat walk_at "r1")
local macro_rules | `(tactic| walk_at "lk") => `(tactic| first | (with_reducible exact lk_hit) | (refine lk_miss (by decide +kernel) ?_; walk_at "lk") | rfl)
local macro_rules | `(tactic| walk_at "len") => `(tactic| (refine Nat.lt_of_le_of_lt (m := 60) ?_ (by decide); (repeat (refine len_put ?_)); exact Nat.zero_le _))
local macro_rules | `(tactic| walk_at "len9") => `(tactic| (refine Nat.le_trans (m := 60) ?_ (by decide); (repeat (refine len_put ?_)); exact Nat.zero_le _))
local macro_rules | `(tactic| walk_at "own") => `(tactic| first | assumption | (refine Same.own ?_ (by assumption); walk_at "own"))

section
variable {P : Program} {w : World} {base : Heap}
variable {K : PySem.W.Frag} {mg : Str → Option Value}
/-- a fraction at r -/
def fV (f : UM.F) : HO := .tup [.int (f.1 : Int), .int (f.2 : Int)]
def spPlain (K : PySem.W.Frag) : Sp := fun vs H Q _ => ∃ (p a : Addr) (ns : List Nat) (c b t : Nat) (u : Bool), vs = [.ref p, .ref a] ∧ WeiAt K H p ns ∧ UM.SmallW ns ∧ SayAt K H a c b t u ∧ SayP ns.length c b t ∧ ∀ H' r, Same H H' → H' r = some (fV (UM.dbt ns (c, b))) → Q (.ref r) H'
theorem sc_plain_doubt : FnScope ["weights", "saying", "weight"] ["weights", "saying"] (defScope (top 32)) := ⟨rfl, rfl, rfl, by decide +kernel, rfl, by decide +kernel, by decide +kernel⟩
theorem ok_plain_doubt (T : Txt K mg) : Ok P w K mg base 3 (ga K "plain_doubt") ["weights", "saying"] (spPlain K) := by
  obtain ⟨fd, F⟩ := T.d_plain_doubt
  obtain ⟨_, G_Weights_of, b_Weights_of, k_Weights_of⟩ := ok_Weights_of (P := P) (w := w) (base := base) T
  obtain ⟨_, G_ratio, b_ratio, k_ratio⟩ := ok_ratio (P := P) (w := w) (base := base) T
  refine ⟨_, F.ok sc_plain_doubt (fun vs H Q E h => ?_) (fun cdv A outer s H vs Q E hr h => ?_), F.binds fun _ _ _ _ _ _ us hl => match us, hl with | [_, _], _ => rfl, F.kp⟩
  · obtain ⟨p, a, ns, c, b, t, u, rfl, _⟩ := h
    rfl
  · obtain ⟨p, a, ns, c, b, t, u, rfl, hW, hS, ha, hP, q⟩ := h
    refine ⟨_, (pss_cons (ps_set (i := 2) sc_plain_doubt.nd rfl (Or.inl rfl) (pe_meth (pv 0) T.c_Weights T.m_Weights_of G_Weights_of (hr.mono (by decide)) b_Weights_of .nil pass0 (pa_cons (pe_fld (pv 1) rfl) pa_nil)))
      (pss_cons (ps_if (pt_cmpR op_eq (pv 2) pe_int (nomark _)) (pss_one (ps_ret (pe_tup (pa_cons pe_int (pa_cons pe_int pa_nil))))) pss_nil) (pss_one (ps_ret (pe_call G_ratio (hr.mono (by decide)) rfl T.g_ratio k_ratio b_ratio .nil pass0 (pa_cons (pe_meth (pv 0) T.c_Weights T.m_Weights_of G_Weights_of (hr.mono (by decide)) b_Weights_of .nil pass0 (pa_cons (pe_fld (pv 1) rfl) pa_nil)) (pa_cons (pv 2) pa_nil))))))), ?_⟩
    obtain ⟨t', h0, ht⟩ := id hW
    obtain ⟨dx, fs, hpe, hlk⟩ := h0.m_of
    have g1 := ha.f_where T; have g2 := ha.f_broken T
    walk_at "rd"
    refine ⟨p, dx, fs, rfl, hpe, hlk, ?_⟩
    walk_at "rd"
    refine ⟨p, ns, c ||| b, rfl, hW, hP.w1, hS.1, hS.lt (by decide), fun H1 e1 => ?_⟩
    have hw : UM.wt ns (c ||| b) = UM.wt ns c + UM.wt ns b := UM.wt_dis (p := (c, b)) (and_dis hP.d) ns
    walk_at "rd"
    by_cases z : UM.wt ns (c ||| b) = 0
    · rw [z]
      walk_at "rd"
      refine ⟨by show 2 ≤ sizeLine; decide, fun r hr => ?_⟩
      have ed : UM.dbt ns (c, b) = (0, 1) := by unfold UM.dbt; rw [if_pos (by show UM.wt ns b + UM.wt ns c = 0; omega)]
      exact q _ r (Same.push e1 hr) (by rw [upd_same, ed]; rfl)
    · rw [vint_ne (by omega)]
      walk_at "rd"
      refine ⟨p, dx, fs, rfl, e1 _ _ hpe, hlk, ?_⟩
      walk_at "rd"
      refine ⟨p, ns, b, rfl, hW.mono e1, hP.b1, hS.1, hS.lt (by decide), fun H2 e2 => ?_⟩
      walk_at "rd"
      refine ⟨Nat.pos_of_ne_zero z, Nat.lt_of_le_of_lt (hS.wt _) (UM.p2lt (by decide)), fun r hr => ?_⟩
      have ed : UM.dbt ns (c, b) = UM.norm (UM.wt ns b) (UM.wt ns (c ||| b)) := by
        unfold UM.dbt
        rw [if_neg (by show ¬ (UM.wt ns b + UM.wt ns c = 0); omega), hw, Nat.add_comm]
      exact q _ r (Same.push (e1.trans e2) hr) (by rw [upd_same, ed]; rfl)
/-- fractions in a row -/
def Fracs (H : Hp) (xs : List V) (fs : List UM.F) : Prop := xs.length = fs.length ∧ ∀ (i : Nat) v, xs[i]? = some v → ∃ f a, fs[i]? = some f ∧ v = .ref a ∧ H a = some (fV f)
theorem Fracs.mono {H H' : Hp} {xs : List V} {fs : List UM.F} (e : Same H H') (h : Fracs H xs fs) : Fracs H' xs fs :=
  ⟨h.1, fun i v hv => let ⟨f, a, h1, h2, h3⟩ := h.2 i v hv; ⟨f, a, h1, h2, e _ _ h3⟩⟩
theorem Fracs.snoc {H : Hp} {xs : List V} {fs : List UM.F} {f : UM.F} {a : Addr} (h : Fracs H xs fs) (ha : H a = some (fV f)) : Fracs H (xs ++ [.ref a]) (fs ++ [f]) := by
  refine ⟨by simp [h.1], fun i v hv => ?_⟩
  by_cases c : i < xs.length
  · rw [List.getElem?_append_left c] at hv
    obtain ⟨r', a', h1, h2⟩ := h.2 i v hv
    exact ⟨r', a', by rw [List.getElem?_append_left (by rw [← h.1]; exact c)]; exact h1, h2⟩
  · have hi : i = xs.length := by
      have := (List.getElem?_eq_some_iff.mp hv).1
      simp at this
      omega
    subst hi
    simp at hv
    subst hv
    exact ⟨f, a, by rw [h.1]; simp, rfl, ha⟩
theorem Fracs.put {H : Hp} {xs ys zs : List V} {fs : List UM.F} {D : Addr} (h : Fracs H xs fs) (hd : H D = some (.lst zs)) : Fracs (upd H D (.lst ys)) xs fs :=
  ⟨h.1, fun i v hv => let ⟨f, a, h1, h2, h3⟩ := h.2 i v hv; ⟨f, a, h1, h2, by rw [upd_ne (ne_of h3 hd (by intro z; cases z))]; exact h3⟩⟩
def spDoubts (K : PySem.W.Frag) : Sp := fun vs H Q _ => ∃ (p bk : Addr) (ns : List Nat) (xs : List V) (ps : List UM.P), vs = [.ref p, .ref bk] ∧ WeiAt K H p ns ∧ UM.SmallW ns ∧ BookAt K H bk ns.length xs ps ∧ xs.length ≤ 12 ∧
  ∀ H' r zs, Same H H' → H' r = some (.tup zs) → Fracs H' zs (ps.map (UM.dbt ns)) → Q (.ref r) H'
theorem sc_doubts_of : FnScope ["weights", "book", "saying"] ["weights", "book"] (defScope (top 33)) := ⟨rfl, rfl, rfl, by decide +kernel, rfl, by decide +kernel, by decide +kernel⟩
theorem ok_doubts_of (T : Txt K mg) : Ok P w K mg base 4 (ga K "doubts_of") ["weights", "book"] (spDoubts K) := by
  obtain ⟨fd, F⟩ := T.d_doubts_of
  obtain ⟨_, G_Weights_len, b_Weights_len, k_Weights_len⟩ := ok_Weights_len (P := P) (w := w) (base := base) T
  obtain ⟨G_check_usual, k_check_usual⟩ := ok_check_usual (P := P) (w := w) (base := base) T
  obtain ⟨_, G_plain_doubt, b_plain_doubt, k_plain_doubt⟩ := ok_plain_doubt (P := P) (w := w) (base := base) T
  refine ⟨_, F.ok sc_doubts_of (fun vs H Q E h => ?_) (fun cdv A outer s H vs Q E hr h => ?_), F.binds fun _ _ _ _ _ _ us hl => match us, hl with | [_, _], _ => rfl, F.kp⟩
  · obtain ⟨p, bk, ns, xs, ps, rfl, _⟩ := h
    rfl
  · obtain ⟨p, bk, ns, xs, ps, rfl, hW, hS, hB, hx, q⟩ := h
    refine ⟨_, (pss_cons (ps_if (pt_cmpR op_ne (pe_callB (call_lenOwn T.m_Weights_len (raw0 G_Weights_len b_Weights_len) (hr.mono (by decide)) pass0) (by rfl) T.b_len (by decide +kernel) (pa_cons (pv 0) pa_nil)) (pe_fld (pe_fld (pv 1) rfl) rfl) (nomark _)) (pss_one ps_never) pss_nil)
      (pss_cons (ps_expr (pe_callF G_check_usual (hr.mono (by decide)) rfl T.g_check_usual k_check_usual pass0 (pa_cons (pv 1) pa_nil))) (pss_one (ps_ret (pe_callTy call_tuple_of (by rfl) T.b_tuple (by decide +kernel) (pa_cons (pe_lc (own := [("saying", 2)]) rfl sc_doubts_of.nd (pi_ownT (k := 2) (pv 1) T.m_Book_iter (hr.mono (by decide))) (blkOk_by (own := [("saying", 2)]) (N := ["weights", "book", "saying"]) (sc := defScope (top 33)) (by decide +kernel)) (fun _ _ _ _ _ => (pg_name (i := 2) sc_doubts_of.nd rfl (Or.inl rfl))) (fun _ _ _ _ _ => pts_nil) (fun _ _ _ _ _ => (pe_call G_plain_doubt (hr.mono (by decide)) rfl T.g_plain_doubt k_plain_doubt b_plain_doubt .nil pass0 (pa_cons (pv 0) (pa_cons (pv 2) pa_nil))))) pa_nil)))))), ?_⟩
    obtain ⟨m, t', hb0, hm, ht, hs⟩ := id hB
    have f1 := hb0.f_marks T; have f2 := hm.f_days T
    obtain ⟨tw, hw0, htw⟩ := id hW
    obtain ⟨dx, fs, hwe⟩ := hw0.ins
    walk_at "rd"
    refine ⟨p, dx, fs, rfl, hwe, p, ns, rfl, hW, _, rfl, Int.natCast_nonneg _, by have := hS.1; omega, ?_⟩
    walk_at "rd"
    have z : decide (V.int (ns.length : Int) = V.int (ns.length : Int)) = true := decide_eq_true rfl
    simp only [z]
    walk_at "rd"
    refine ⟨[V.ref bk], [], rfl, rfl, by show 0 ≤ sizeLine; decide, fun pp hpp => ?_⟩
    have e2 : Same H (upd H pp (.tup [])) := Same.new hpp
    refine ⟨bk, pp, ns.length, xs, [], ps, rfl, hB.mono e2, SqT.of upd_same, fun y hy => (by cases hy), fun H2 e3 => ?_⟩
    have e23 := e2.trans e3
    obtain ⟨dxb, fsb, hbe⟩ := (hb0.mono e23).ins
    walk_at "rd"
    have ht3 : SqT K H2 t' xs := Same.tup e23 ht
    refine ⟨bk, dxb, fsb, t', xs, rfl, hbe, ht3, fun A' s' hr' e0' => iter_Book T _ (hb0.mono e23) ht3 A' s' hr' e0', fun D hD => ?_⟩
    refine lc_it (walk_tup (K := K) (a := t') (xs := xs)) (fun i H' => Same H2 H' ∧ ∃ acc, H' D = some (.lst acc) ∧ Fracs H' acc ((ps.take i).map (UM.dbt ns))) ⟨Same.new hD, [], upd_same, rfl, fun i v hv => by cases hv⟩ (fun i H' _ h => Same.tup h.1 ht3) ?_ ?_
    · rintro i x H3 H4 hi ⟨e4, acc, h4, hf⟩ ⟨rfl, hx1⟩
      obtain ⟨pp, a, t2, hp1, rfl, hp3, hp4⟩ := hs.2 i x hx1
      have e24 := e23.trans e4
      walk_at "rd"
      refine ⟨p, a, ns, pp.1, pp.2, t2, true, rfl, hW.mono e24, hS, hp3.mono e24, hp4, fun H5 r e5 hr => ?_⟩
      refine ⟨acc, e5 _ _ h4, ?_, Same.own (e4.trans e5) hD, acc ++ [.ref r], upd_same, ?_⟩
      · rw [hf.1, List.length_map, List.length_take]
        exact Nat.lt_of_le_of_lt (Nat.min_le_left _ _) (Nat.lt_trans hi (Nat.lt_of_le_of_lt hx (by decide)))
      · have et : (ps.take (i + 1)).map (UM.dbt ns) = (ps.take i).map (UM.dbt ns) ++ [UM.dbt ns pp] := by rw [List.take_add_one, hp1, List.map_append]; rfl
        rw [et]
        exact ((hf.mono e5).snoc hr).put (e5 _ _ h4)
    · rintro H3 ⟨e4, acc, h4, hf⟩
      rw [hs.1, List.take_length] at hf
      walk_at "rd"
      refine ⟨D, acc, rfl, .inl ⟨SqL.of h4, fun r hr => ?_⟩⟩
      exact q _ r acc (Same.push (e23.trans e4) hr) upd_same (hf.mono (Same.new hr))
def spDSum (K : PySem.W.Frag) : Sp := fun vs H Q _ => ∃ (p bk : Addr) (ns : List Nat) (xs : List V) (ps : List UM.P), vs = [.ref p, .ref bk] ∧ WeiAt K H p ns ∧ UM.SmallW ns ∧ BookAt K H bk ns.length xs ps ∧ xs.length ≤ 12 ∧
  ∀ H' r, Same H H' → H' r = some (fV (UM.sumF ns ps)) → Q (.ref r) H'
theorem sc_doubt_sum : FnScope ["weights", "book", "total", "each"] ["weights", "book"] (defScope (top 34)) := ⟨rfl, rfl, rfl, by decide +kernel, rfl, by decide +kernel, by decide +kernel⟩
theorem ok_doubt_sum (T : Txt K mg) : Ok P w K mg base 5 (ga K "doubt_sum") ["weights", "book"] (spDSum K) := by
  obtain ⟨fd, F⟩ := T.d_doubt_sum
  obtain ⟨_, G_doubts_of, b_doubts_of, k_doubts_of⟩ := ok_doubts_of (P := P) (w := w) (base := base) T
  obtain ⟨_, G_ratio_sum, b_ratio_sum, k_ratio_sum⟩ := ok_ratio_sum (P := P) (w := w) (base := base) T
  refine ⟨_, F.ok sc_doubt_sum (fun vs H Q E h => ?_) (fun cdv A outer s H vs Q E hr h => ?_), F.binds fun _ _ _ _ _ _ us hl => match us, hl with | [_, _], _ => rfl, F.kp⟩
  · obtain ⟨p, bk, ns, xs, ps, rfl, _⟩ := h
    rfl
  · obtain ⟨p, bk, ns, xs, ps, rfl, hW, hS, hB, hx, q⟩ := h
    refine ⟨_, (pss_cons (ps_set (i := 2) sc_doubt_sum.nd rfl (Or.inl rfl) (pe_tup (pa_cons pe_int (pa_cons pe_int pa_nil))))
      (pss_cons (ps_for PassesOwn.never rfl (pi_tup (pe_call G_doubts_of (hr.mono (by decide)) rfl T.g_doubts_of k_doubts_of b_doubts_of .nil pass0 (pa_cons (pv 0) (pa_cons (pv 1) pa_nil)))) (pg_name (i := 3) sc_doubt_sum.nd rfl (Or.inl rfl)) (pss_one (ps_set (i := 2) sc_doubt_sum.nd rfl (Or.inl rfl) (pe_call G_ratio_sum (hr.mono (by decide)) rfl T.g_ratio_sum k_ratio_sum b_ratio_sum .nil pass0 (pa_cons (pv 2) (pa_cons (pv 3) pa_nil)))))) (pss_one (ps_ret (pv 2))))), ?_⟩
    have hpl : ps.length ≤ 12 := by obtain ⟨m, t', hb0, hm, ht, hs⟩ := id hB; rw [← hs.1]; exact hx
    walk_at "rd"
    refine ⟨by show 2 ≤ sizeLine; decide, fun t0 ht0 => ?_⟩
    have e1 : Same H (upd H t0 (.tup [.int 0, .int 1])) := Same.new ht0
    have h1 : upd H t0 (.tup [.int 0, .int 1]) t0 = some (fV (0, 1)) := upd_same
    walk_at "rd"
    refine ⟨p, bk, ns, xs, ps, rfl, hW.mono e1, hS, hB.mono e1, hx, fun H2 r zs e2 hr hf => ?_⟩
    refine ⟨r, rfl, ⟨_, SqT.of hr⟩, for_it (walk_tup (K := K) (a := r) (xs := zs)) (fun i σ H' => ∃ (t : Addr) (v : Option V), Same H2 H' ∧ σ = [some (.ref p), some (.ref bk), some (.ref t), v] ∧ H' t = some (fV (UM.sumF ns (ps.take i)))) ⟨t0, none, Same.refl _, rfl, e2 _ _ h1⟩ (fun i σ H' _ h => by obtain ⟨_, _, e, _⟩ := h; exact SqT.of (e _ _ hr)) ?_ ?_⟩
    · rintro i x σ H3 H4 hi ⟨t, v, e3, rfl, h3⟩ ⟨rfl, hx1⟩
      obtain ⟨f, a, hf1, rfl, hf3⟩ := hf.2 i x hx1
      rw [List.getElem?_map] at hf1
      obtain ⟨pp, hp1, rfl⟩ := Option.map_eq_some_iff.mp hf1
      have et : ps.take (i + 1) = ps.take i ++ [pp] := by rw [List.take_add_one, hp1]; rfl
      have hst := hS.take hpl i
      walk_at "rd"
      refine ⟨t, a, _, _, _, _, rfl, SqT.of h3, SqT.of (e3 _ _ hf3), UM.sumF_pos ns _, UM.dbt_pos ns pp, ⟨hst.1, hst.2, Nat.lt_trans (hS.dbt1 pp) (UM.p2lt (by decide)), Nat.lt_trans (hS.dbt2 pp) (UM.p2lt (by decide))⟩, fun r2 hr2 => ?_⟩
      walk_at "rd"
      refine ⟨r2, _, Same.push e3 hr2, rfl, ?_⟩
      rw [upd_same, et, UM.sumF_snoc]
      rfl
    · rintro σ H3 ⟨t, v, e3, rfl, h3⟩
      have hzl : zs.length = ps.length := by rw [hf.1, List.length_map]
      rw [hzl, List.take_length] at h3
      walk_at "rd"
      exact q _ t (e1.trans (e2.trans e3)) h3
end
end U
set_option maxHeartbeats 4100000
namespace U
open PySem L2 He
local macro_rules | `(tactic| walk_at "same") => `(tactic| first | (with_reducible assumption) | exact Same.refl _ | (refine Same.push ?_ (by assumption); walk_at "same") | (refine Same.own ?_ (by assumption); walk_at "same") | (refine Same.trans ?_ (by with_reducible assumption); walk_at "same"))
local macro_rules | `(tactic| walk_at "get") => `(tactic| first | assumption | exact upd_same | (refine get_push (by assumption) ?_; walk_at "get") | (refine get_ne (by assumption) ?_; walk_at "get") | (refine get_ne' (by assumption) ?_; walk_at "get") | (refine Same.get ?_ (by assumption); walk_at "same"))
local macro_rules | `(tactic| walk_at "has") => `(tactic| first | assumption | (refine Has.mono ?_ (by assumption); walk_at "same"))
local macro_rules | `(tactic| walk_at "sql") => `(tactic| first | assumption | exact SqL.of upd_same | exact SqL.of (by assumption) | (refine Same.seq ?_ (by assumption); walk_at "same") | (refine SqL.of ?_; walk_at "get"))
local macro_rules | `(tactic| walk_at "sqt") => `(tactic| first | assumption | exact SqT.of upd_same | exact SqT.of (by assumption) | (refine Same.tup ?_ (by assumption); walk_at "same") | (refine SqT.of ?_; walk_at "get"))
local macro_rules | `(tactic| walk_at "r1") => `(tactic| first | ((with_reducible refine ite_tt ?_ ?_); (focus exact rfl)) | ((with_reducible refine ite_ff ?_ ?_); (focus exact rfl)) | refine ⟨_, rfl, ?_⟩ | refine ⟨_, _, rfl, rfl, ?_⟩ | (refine ⟨rfl, ?_⟩) | refine ⟨(Int.natCast_nonneg _ : (0 : Int) ≤ _), ?_⟩ | refine ⟨_, _, rfl, ?_⟩ | refine ⟨_, _, _, rfl, ?_⟩ | (refine Has.ans (by walk_at "has") ?_) | refine ⟨_, _, _, _, rfl, rfl, (by walk_at "sql"), rfl, ?_⟩ | refine ⟨_, _, rfl, .inl (by walk_at "sql"), ?_⟩ | refine ⟨_, _, rfl, .inr (by walk_at "sqt"), ?_⟩ | refine ⟨_, _, _, _, rfl, rfl, (by walk_at "sqt"), rfl, ?_⟩ | refine ⟨_, _, rfl, (by walk_at "sqt"), rfl, ?_⟩ | refine ⟨_, _, _, _, rfl, (by walk_at "get"), (by assumption), (by assumption), (by walk_at "len"), ?_⟩ | refine ⟨_, _, _, _, _, rfl, (by walk_at "get"), (by assumption), (by assumption), (by walk_at "lk"), ?_⟩)
local macro_rules | `(tactic| walk_at "rd") => `(tactic| repeat walk_at "r1")
local macro_rules | `(tactic| walk_at "lk") => `(tactic| first | (with_reducible exact lk_hit) | (refine lk_miss (by decide +kernel) ?_; walk_at "lk") | rfl)
local macro_rules | `(tactic| walk_at "len") => `(tactic| (refine Nat.lt_of_le_of_lt (m := 60) ?_ (by decide); (repeat (refine len_put ?_)); exact Nat.zero_le _))
local macro_rules | `(tactic| walk_at "len9") => `(tactic| (refine Nat.le_trans (m := 60) ?_ (by decide); (repeat (refine len_put ?_)); exact Nat.zero_le _))
local macro_rules | `(tactic| walk_at "own") => `(tactic| first | assumption | (refine Same.own ?_ (by assumption); walk_at "own"))

section
variable {P : Program} {w : World} {base : Heap}
variable {K : PySem.W.Frag} {mg : Str → Option Value}
theorem nV_flat {ns : List Nat} : ∀ v ∈ nV ns, v = .non ∨ ∃ i, v = .int i := fun v hv => let ⟨d, _, e⟩ := List.mem_map.mp hv; .inr ⟨_, e.symm⟩
def spWeiInit (K : PySem.W.Frag) : Sp := fun vs H Q _ => ∃ (H0 : Hp) (p dx l : Addr) (ns : List Nat), vs = [.ref p, .ref l] ∧ H p = some (.ins (ga K "Weights") dx []) ∧ Same H0 H ∧ H0 p = none ∧ SqL K H0 l (nV ns) ∧ Four ns.length ∧ (∃ x ∈ ns, 0 < x) ∧
  ∀ H', Same H0 H' → WeiAt K H' p ns → Q .non H'
theorem sc_Weights_init : FnScope ["self", "numbers", "number"] ["self", "numbers"] (defScope (inClass (top 38) 0)) := ⟨rfl, rfl, rfl, by decide +kernel, rfl, by decide +kernel, by decide +kernel⟩
theorem ok_Weights_init (T : Txt K mg) : Ok P w K mg base 2 (ma K (ga K "Weights") "__init__") ["self", "numbers"] (spWeiInit K) := by
  obtain ⟨fd, F⟩ := T.f_Weights_init
  obtain ⟨_, G_is_weight, b_is_weight, k_is_weight⟩ := ok_is_weight (P := P) (w := w) (base := base) T
  refine ⟨_, F.ok sc_Weights_init (fun vs H Q E h => ?_) (fun cdv A outer s H vs Q E hr h => ?_), F.binds fun _ _ _ _ _ _ us hl => match us, hl with | [_, _], _ => rfl, F.kp⟩
  · obtain ⟨H0, p, dx, l, ns, rfl, _⟩ := h
    rfl
  · obtain ⟨H0, p, dx, l, ns, rfl, hp, s0, p0, hl, hn, hx, q⟩ := h
    refine ⟨_, (pss_cons (ps_if (PW.pt (pw_or (pt_not (pt_val (pe_callB call_isiT (by rfl) T.b_isinstance (by decide +kernel) (pa_cons (pv 1) (pa_cons (pe_tup (pa_cons (pe_bltn (v := .ty "list") rfl T.b_list (by decide +kernel) rfl) (pa_cons (pe_bltn (v := .ty "tuple") rfl T.b_tuple (by decide +kernel) rfl) pa_nil))) pa_nil))))) (pw_or1 (pt_cmpR op_notIn_seq (pe_callB call_len_seq (by rfl) T.b_len (by decide +kernel) (pa_cons (pv 1) pa_nil)) (pe_glob (v := .ref (ga K "SIZES")) rfl T.g_SIZES rfl) rfl)))) (pss_one ps_never) pss_nil)
      (pss_cons (ps_if (pt_cmpR (op_neD hr.units) (pe_lc (own := [("number", 2)]) rfl sc_Weights_init.nd (pi_list (pv 1)) (blkOk_by (own := [("number", 2)]) (N := ["self", "numbers", "number"]) (sc := defScope (inClass (top 38) 0)) (by decide +kernel)) (fun _ _ _ _ _ => (pg_name (i := 2) sc_Weights_init.nd rfl (Or.inl rfl))) (fun _ _ _ _ _ => pts_one (pt_not (pt_val (pe_call G_is_weight (hr.mono (by decide)) rfl T.g_is_weight k_is_weight b_is_weight .nil pass0 (pa_cons (pv 2) pa_nil))))) (fun _ _ _ _ _ => (pv 2))) (pe_lst pa_nil) (nomark _)) (pss_one ps_never) pss_nil)
      (pss_cons (ps_if (pt_cmpR (op_eqD hr.units) (pe_lc (own := [("number", 2)]) rfl sc_Weights_init.nd (pi_list (pv 1)) (blkOk_by (own := [("number", 2)]) (N := ["self", "numbers", "number"]) (sc := defScope (inClass (top 38) 0)) (by decide +kernel)) (fun _ _ _ _ _ => (pg_name (i := 2) sc_Weights_init.nd rfl (Or.inl rfl))) (fun _ _ _ _ _ => pts_one (pt_cmpR op_gt (pv 2) pe_int (nomark _))) (fun _ _ _ _ _ => (pv 2))) (pe_lst pa_nil) (nomark _)) (pss_one ps_never) pss_nil) (pss_one (ps_fld (pv 0) (pe_callTy call_tuple_of (by rfl) T.b_tuple (by decide +kernel) (pa_cons (pv 1) pa_nil)) rfl))))), ?_⟩
    have c_Weights := T.c_Weights; have n_numbers := T.n_Weights_numbers
    have hlen : ns.length ≤ 16 := by rcases hn with h | h | h | h <;> omega
    walk_at "rd"
    refine ⟨by show 2 ≤ sizeLine; decide, fun t ht => ?_⟩
    have e1 : Same H (upd H t (.tup [.ty "list", .ty "tuple"])) := Same.new ht
    have hp1 := e1 _ _ hp
    refine ⟨V.ref l, t, _, _, _, true, rfl, upd_same, cls_lt, tyx_lst (e1.seq (s0.seq hl)), any_lt (.inl rfl), ?_⟩
    revert e1 hp1
    generalize upd H t (.tup [.ty "list", .ty "tuple"]) = H1
    intro e1 hp1
    have s1 := s0.trans e1
    walk_at "rd"
    refine ⟨ga K "SIZES", _, rfl, .inr (T.t_SIZES _), rfl, rfl, ?_⟩
    simp only [nV_len, in_four hn]
    walk_at "rd"
    refine ⟨⟨_, s1.seq hl⟩, fun D hD => lc_it (walk_list (K := K) (a := l) (xs := nV ns)) (fun i H' => Same H1 H' ∧ H' D = some (.lst [])) ⟨Same.new hD, upd_same⟩ (fun i H' _ h => h.1.seq (s1.seq hl)) ?_ ?_⟩
    · rintro i x H2 H3 hi ⟨e2, h2⟩ ⟨rfl, hx1⟩
      obtain ⟨d, hd, rfl⟩ := get_map hx1
      walk_at "rd"
      exact ⟨e2, h2⟩
    · rintro H2 ⟨e2, h2⟩
      walk_at "rd"
      refine ⟨by show 0 ≤ sizeLine; decide, fun eb heb => ne_empty (SqL.of (get_push heb h2)) (fun v hv => by cases hv) (SqL.of upd_same) ?_⟩
      have e3 := e2.trans (Same.new heb (o := .lst []))
      revert e3
      generalize upd H2 eb (.lst []) = H3
      intro e3
      have hp3 := e3 _ _ hp1
      have s3 := s1.trans e3
      walk_at "rd"
      refine ⟨⟨_, s3.seq hl⟩, fun D2 hD2 => lc_it (walk_list (K := K) (a := l) (xs := nV ns)) (fun i H' => Same H3 H' ∧ H' D2 = some (.lst (nV ((ns.take i).filter fun x => decide (0 < x))))) ⟨Same.new hD2, upd_same⟩ (fun i H' _ h => h.1.seq (s3.seq hl)) ?_ ?_⟩
      · rintro i x H4 H5 hi ⟨e4, h4⟩ ⟨rfl, hx1⟩
        obtain ⟨d, hd, rfl⟩ := get_map hx1
        have ft := filter_take (f := fun x => decide (0 < x)) hd
        walk_at "rd"
        by_cases z : 0 < d
        · have z2 : decide ((0 : Int) < (d : Int)) = true := decide_eq_true (by omega)
          rw [if_pos (decide_eq_true z)] at ft
          rw [z2]
          walk_at "rd"
          refine ⟨_, h4, ?_, Same.own e4 hD2, ?_⟩
          · rw [nV_len]
            exact Nat.lt_of_le_of_lt (List.length_filter_le _ _) (take_len_lt (Nat.le_trans hlen (by decide)) (by rw [nV_len] at hi; exact hi))
          · rw [upd_same, ft]
            unfold nV
            rw [List.map_append]
            rfl
        · have z2 : decide ((0 : Int) < (d : Int)) = false := decide_eq_false (by omega)
          rw [if_neg (by simpa using z), List.append_nil] at ft
          rw [z2]
          walk_at "rd"
          exact ⟨e4, by rw [ft]; exact h4⟩
      · rintro H4 ⟨e4, h4⟩
        rw [nV_len, List.take_length] at h4
        walk_at "rd"
        refine ⟨by show 0 ≤ sizeLine; decide, fun eb2 heb2 => eq_empty (SqL.of (get_push heb2 h4)) nV_flat (SqL.of upd_same) ?_⟩
        have e5 := e4.trans (Same.new heb2 (o := .lst []))
        revert e5
        generalize upd H4 eb2 (.lst []) = H5
        intro e5
        have hp5 := e5 _ _ hp3
        have s5 := s3.trans e5
        have ne : (nV (ns.filter fun x => decide (0 < x))).isEmpty = false := by
          obtain ⟨x, hx1, hx2⟩ := hx
          have : x ∈ ns.filter fun x => decide (0 < x) := List.mem_filter.mpr ⟨hx1, decide_eq_true hx2⟩
          cases h : ns.filter fun x => decide (0 < x) with
          | nil => rw [h] at this; cases this
          | cons => rfl
        rw [ne]
        walk_at "rd"
        refine ⟨l, _, rfl, .inl ⟨s5.seq hl, fun tt htt => ?_⟩⟩
        have ntp : p ≠ tt := by { refine ne_fresh htt ⟨?_, ?_⟩; rotate_left; walk_at "get" }
        walk_at "rd"
        exact q _ (by walk_at "same") ⟨tt, ⟨dx, _, upd_same, (by walk_at "lk"), (by walk_at "lk"), (by walk_at "lk"), (by walk_at "len9")⟩, SqT.of (by walk_at "get")⟩
/-! ### marks -/
def ABCD : List Str := ["a", "b", "c", "d"]
def spName : Sp := fun vs H Q _ => ∃ x, vs = [.str x] ∧ x ∈ ABCD ∧ Q .non H
theorem sc_name_fault : FnScope ["thing", "character"] ["thing"] (defScope (top 81)) := ⟨rfl, rfl, rfl, by decide +kernel, rfl, by decide +kernel, by decide +kernel⟩
theorem ok_name_fault (T : Txt K mg) : Ok P w K mg base 1 (ga K "name_fault") ["thing"] (spName) := by
  obtain ⟨fd, F⟩ := T.d_name_fault
  obtain ⟨_, gc_LONGEST_NAME⟩ := T.c_LONGEST_NAME
  obtain ⟨_, gc_LETTERS⟩ := T.c_LETTERS
  refine ⟨_, F.ok sc_name_fault (fun vs H Q E h => ?_) (fun cdv A outer s H vs Q E hr h => ?_), F.binds fun _ _ _ _ _ _ us hl => match us, hl with | [_], _ => rfl, F.kp⟩
  · obtain ⟨x, rfl, _⟩ := h
    rfl
  · obtain ⟨x, rfl, hx, q⟩ := h
    refine ⟨_, (pss_cons (ps_if (PW.pt (pw_or (pt_not (pt_val (pe_callB call_isi (by rfl) T.b_isinstance (by decide +kernel) (pa_cons (pv 0) (pa_cons (pe_bltn (v := .ty "str") rfl T.b_str (by decide +kernel) rfl) pa_nil))))) (pw_or1 (pt_not (pt_chain op_le op_le pe_int (pe_callB call_len_str (by rfl) T.b_len (by decide +kernel) (pa_cons (pv 0) pa_nil)) (pe_glob (v := .int 8) rfl gc_LONGEST_NAME ⟨_, rfl⟩)))))) (pss_one (ps_ret pe_str)) pss_nil)
      (pss_cons (ps_for PassesOwn.never rfl (pi_str (pv 0)) (pg_name (i := 1) sc_name_fault.nd rfl (Or.inl rfl)) (pss_one (ps_if (pt_cmpR op_notInS (pv 1) (pe_glob (v := .str "abcdefghijklmnopqrstuvwxyz") rfl gc_LETTERS ⟨_, rfl⟩) rfl) (pss_one (ps_ret pe_str)) pss_nil))) (pss_one (ps_ret (pe_ifExp (pt_cmpR op_in_seq (pv 0) (pe_glob (v := .ref (ga K "KEPT_WORDS")) rfl T.g_KEPT_WORDS rfl) rfl) pe_str pe_non))))), ?_⟩
    have hl : x.length = 1 := by
      unfold ABCD at hx
      simp only [List.mem_cons, List.not_mem_nil, or_false ] at hx
      rcases hx with rfl | rfl | rfl | rfl <;> rfl
    walk_at "rd"
    refine ⟨_, _, _, _, true, rfl, .ty _, .base (.str _), kit_ty (by decide +kernel), ?_⟩
    have hc : ∀ (i : Nat) (c : Nat), x.cps[i]? = some c → decide (c ∈ ("abcdefghijklmnopqrstuvwxyz" : Str).cps.toList) = true := by
      unfold ABCD at hx
      simp only [List.mem_cons, List.not_mem_nil, or_false ] at hx
      intro i c hi
      rcases hx with rfl | rfl | rfl | rfl <;> (cases i with
        | zero => cases hi; rfl
        | succ i => cases hi)
    have hk : inV (.str x) [.str "and", .str "any", .str "marks", .str "need", .str "never", .str "not", .str "or", .str "usually", .str "where"] = false := by
      unfold ABCD at hx
      simp only [List.mem_cons, List.not_mem_nil, or_false ] at hx
      rcases hx with rfl | rfl | rfl | rfl <;> rfl
    walk_at "rd"
    refine ⟨by rw [hl]; decide, ?_⟩
    rw [hl]
    walk_at "rd"
    refine for_it (walk_str (z := x)) (fun i σ H' => ∃ v, H' = H ∧ σ = [some (.str x), v]) ⟨none, rfl, rfl⟩ (fun _ _ _ _ _ => trivial) ?_ ?_
    · rintro i y σ H1 H2 hi ⟨v, rfl, rfl⟩ ⟨rfl, c, hi2, rfl⟩
      walk_at "rd"
      rw [hc i c hi2]
      walk_at "rd"
      exact ⟨_, rfl, rfl⟩
    · rintro σ H1 ⟨v, rfl, rfl⟩
      walk_at "rd"
      refine ⟨ga K "KEPT_WORDS", _, rfl, .inr (T.t_KEPT_WORDS _), rfl, rfl, ?_⟩
      simp only [hk]
      walk_at "rd"
      exact q
def sV (xs : List Str) : List V := xs.map V.str
theorem sV_len (xs : List Str) : (sV xs).length = xs.length := List.length_map ..
theorem flat_sV : ∀ xs : List Str, (sV xs).all flatV = true
  | [] => rfl
  | x :: xs => by show (flatV (V.str x) && (sV xs).all flatV) = true; rw [flat_sV xs]; rfl
def namesOk : Bool := (List.range 5).all fun k => (List.range k).all fun i => match (ABCD.take k)[i]? with
  | some x => decide (x ∈ ABCD) && !inV (.str x) (sV ((ABCD.take k).take i))
  | none => false
theorem names_ok : namesOk = true := by decide +kernel
theorem name_at {k i : Nat} {x : Str} (hk : k ≤ 4) (h : (ABCD.take k)[i]? = some x) : x ∈ ABCD ∧ inV (.str x) (sV ((ABCD.take k).take i)) = false := by
  have hi := (List.getElem?_eq_some_iff.mp h).1
  have h4 : (ABCD.take k).length ≤ k := by rw [List.length_take]; omega
  have n := List.all_eq_true.mp (List.all_eq_true.mp names_ok k (List.mem_range.mpr (by omega))) i (List.mem_range.mpr (by omega))
  rw [h] at n
  simp only [Bool.and_eq_true, decide_eq_true_eq, Bool.not_eq_true'] at n
  exact n
def spMarks (K : PySem.W.Frag) : Sp := fun vs H Q _ => ∃ (H0 : Hp) (p dx l : Addr) (k : Nat), vs = [.ref p, .ref l] ∧ H p = some (.ins (ga K "Marks") dx []) ∧ Same H0 H ∧ H0 p = none ∧ SqL K H0 l (sV (ABCD.take k)) ∧ 1 ≤ k ∧ k ≤ 4 ∧ ∀ H', Same H0 H' → MarksAt K H' p (2 ^ k) → Q .non H'
theorem sc_Marks_init : FnScope ["self", "names", "kept", "index", "name", "fault"] ["self", "names"] (defScope (inClass (top 82) 0)) := ⟨rfl, rfl, rfl, by decide +kernel, rfl, by decide +kernel, by decide +kernel⟩
theorem ok_Marks_init (T : Txt K mg) : Ok P w K mg base 2 (ma K (ga K "Marks") "__init__") ["self", "names"] (spMarks K) := by
  obtain ⟨fd, F⟩ := T.f_Marks_init
  obtain ⟨_, G_name_fault, b_name_fault, k_name_fault⟩ := ok_name_fault (P := P) (w := w) (base := base) T
  obtain ⟨_, gc_MOST_MARKS⟩ := T.c_MOST_MARKS
  refine ⟨_, F.ok sc_Marks_init (fun vs H Q E h => ?_) (fun cdv A outer s H vs Q E hr h => ?_), F.binds fun _ _ _ _ _ _ us hl => match us, hl with | [_, _], _ => rfl, F.kp⟩
  · obtain ⟨H0, p, dx, l, k, rfl, _⟩ := h
    rfl
  · obtain ⟨H0, p, dx, l, k, rfl, hp, s0, p0, hl, hk1, hk4, q⟩ := h
    refine ⟨_, (pss_cons (ps_if (PW.pt (pw_or (pt_not (pt_val (pe_callB call_isiT (by rfl) T.b_isinstance (by decide +kernel) (pa_cons (pv 1) (pa_cons (pe_tup (pa_cons (pe_bltn (v := .ty "list") rfl T.b_list (by decide +kernel) rfl) (pa_cons (pe_bltn (v := .ty "tuple") rfl T.b_tuple (by decide +kernel) rfl) pa_nil))) pa_nil))))) (pw_or1 (pt_not (pt_chain op_le op_le pe_int (pe_callB call_len_seq (by rfl) T.b_len (by decide +kernel) (pa_cons (pv 1) pa_nil)) (pe_glob (v := .int 4) rfl gc_MOST_MARKS ⟨_, rfl⟩)))))) (pss_one ps_never) pss_nil)
      (pss_cons (ps_set (i := 2) sc_Marks_init.nd rfl (Or.inl rfl) (pe_lst pa_nil))
      (pss_cons (ps_for PassesOwn.never rfl (pi_enum (by rfl) T.b_enumerate (pa_cons (pv 1) pa_nil)) (pg_tup rfl (pgs_cons (pg_name (i := 3) sc_Marks_init.nd rfl (Or.inl rfl)) (pgs_cons (pg_name (i := 4) sc_Marks_init.nd rfl (Or.inl rfl)) pgs_nil))) (pss_cons (ps_set (i := 5) sc_Marks_init.nd rfl (Or.inl rfl) (pe_call G_name_fault (hr.mono (by decide)) rfl T.g_name_fault k_name_fault b_name_fault .nil pass0 (pa_cons (pv 4) pa_nil)))
      (pss_cons (ps_if (PW.pt (pw_and (pt_cmpR op_isN (pv 5) pe_non (nomark _)) (pw_and1 (pt_cmpR op_in_seq (pv 4) (pv 2) rfl)))) (pss_one (ps_set (i := 5) sc_Marks_init.nd rfl (Or.inl rfl) pe_str)) pss_nil)
      (pss_cons (ps_if (pt_cmpR op_notN (pv 5) pe_non (nomark _)) (pss_one ps_never) pss_nil) (pss_one (ps_expr (pe_bm PySem.F.plainAttrs_list PySem.F.slot_list_append PySem.F.type_list_append mt_append (pv 2) (pa_cons (pv 4) pa_nil))))))))
      (pss_cons (ps_fld (pv 0) (pe_callTy call_tuple_of (by rfl) T.b_tuple (by decide +kernel) (pa_cons (pv 2) pa_nil)) rfl)
      (pss_cons (ps_fld (pv 0) (pe_callB call_len_seq (by rfl) T.b_len (by decide +kernel) (pa_cons (pv 2) pa_nil)) rfl)
      (pss_cons (ps_fld (pv 0) (pe_op op_shl pe_int (pe_callB call_len_seq (by rfl) T.b_len (by decide +kernel) (pa_cons (pv 2) pa_nil))) rfl) (pss_one (ps_fld (pv 0) (pe_op op_sub (pe_op op_shl pe_int (pe_fld (pv 0) rfl)) pe_int) rfl)))))))), ?_⟩
    have c_Marks := T.c_Marks; have n_names := T.n_Marks_names; have n_count := T.n_Marks_count; have n_days := T.n_Marks_days; have n_all_days := T.n_Marks_all_days
    have hlen : (ABCD.take k).length = k := by rw [List.length_take]; show min k 4 = k; omega
    walk_at "rd"
    refine ⟨by show 2 ≤ sizeLine; decide, fun t ht => ?_⟩
    have e1 : Same H (upd H t (.tup [.ty "list", .ty "tuple"])) := Same.new ht
    have hp1 := e1 _ _ hp
    refine ⟨V.ref l, t, _, _, _, true, rfl, upd_same, cls_lt, tyx_lst (e1.seq (s0.seq hl)), any_lt (.inl rfl), ?_⟩
    revert e1 hp1
    generalize upd H t (.tup [.ty "list", .ty "tuple"]) = H1
    intro e1 hp1
    have s1 := s0.trans e1
    walk_at "rd"
    have z1 : decide ((1 : Int) ≤ ((sV (ABCD.take k)).length : Int)) = true := decide_eq_true (by rw [sV_len, hlen]; omega)
    have z2 : decide (((sV (ABCD.take k)).length : Int) ≤ 4) = true := decide_eq_true (by rw [sV_len, hlen]; omega)
    rw [z1]
    walk_at "rd"
    rw [z2]
    walk_at "rd"
    refine ⟨by show 0 ≤ sizeLine; decide, fun kp hkp => ?_⟩
    have e2 : Same H1 (upd H1 kp (.lst [])) := Same.new hkp
    walk_at "rd"
    refine ⟨l, _, rfl, (s1.trans e2).seq hl, for_it (walk_enum (K := K) (a := l) (xs := sV (ABCD.take k))) (fun i σ H' => ∃ v3 v4 v5 : Option V, Same H1 H' ∧ σ = [some (.ref p), some (.ref l), some (.ref kp), v3, v4, v5] ∧ H' kp = some (.lst (sV ((ABCD.take k).take i)))) ⟨none, none, none, e2, rfl, upd_same⟩ (fun i σ H' _ h => by obtain ⟨v3, v4, v5, e, _⟩ := h; exact (s1.trans e).seq hl) ?_ ?_⟩
    · rintro i x σ H2 H3 hi ⟨v3, v4, v5, e3, rfl, h3⟩ ⟨Tp, y1, y2, rfl, hT, rfl, hy1, hy2⟩
      cases hy1
      obtain ⟨nm, hnm, rfl⟩ := get_map hy2
      obtain ⟨na, nb⟩ := name_at hk4 hnm
      have e4 : Same H1 (upd H2 Tp (.tup [.int (i : Nat), .str nm])) := Same.push e3 hT
      have h4 := get_push (u := .tup [.int (i : Nat), .str nm]) hT h3
      walk_at "rd"
      refine ⟨na, ?_⟩
      walk_at "rd"
      refine ⟨flat_sV _, ?_⟩
      simp only [nb]
      walk_at "rd"
      refine ⟨.inl ⟨rfl, _, SqL.of h4⟩, ?_⟩
      walk_at "rd"
      refine ⟨kp, _, _, rfl, rfl, h4, ?_, ?_⟩
      · rw [sV_len, List.length_take, hlen]
        exact Nat.lt_of_le_of_lt (Nat.min_le_right _ _) (Nat.lt_of_le_of_lt hk4 (by decide))
      · walk_at "rd"
        refine ⟨_, _, _, Same.own e4 hkp, rfl, ?_⟩
        rw [upd_same, List.take_add_one, hnm]
        unfold sV
        rw [List.map_append]
        rfl
    · rintro σ H2 ⟨v3, v4, v5, e3, rfl, h3⟩
      rw [sV_len, List.take_length] at h3
      have hp2 := e3 _ _ hp1
      have s2 := s1.trans e3
      have nkp : kp ≠ p := ne_of h3 hp2 (by intro z; cases z)
      have h3s := SqL.of (K := K) h3
      walk_at "rd"
      refine ⟨kp, _, rfl, .inl ⟨h3s, fun tt htt => ?_⟩⟩
      have ntp : p ≠ tt := by { refine ne_fresh htt ⟨?_, ?_⟩; rotate_left; walk_at "get" }
      walk_at "rd"
      refine ⟨kp, sV (ABCD.take k), rfl, .inl (SqL.of (by walk_at "get")), ?_⟩
      simp only [sV_len, hlen]
      walk_at "rd"
      refine ⟨kp, sV (ABCD.take k), rfl, .inl (SqL.of (by walk_at "get")), ?_⟩
      simp only [sV_len, hlen]
      walk_at "rd"
      refine ⟨⟨Int.natCast_nonneg _, by omega, by decide⟩, ?_⟩
      simp only [shl_one]
      walk_at "rd"
      have k16 : 2 ^ k ≤ 16 := Nat.pow_le_pow_right (n := 2) (by decide) hk4
      refine ⟨⟨Int.natCast_nonneg _, by omega, by decide⟩, ?_⟩
      simp only [shl_one]
      walk_at "rd"
      refine q _ (by walk_at "same") ⟨dx, _, upd_same, (by walk_at "lk"), ?_, (by walk_at "len9")⟩
      have e : (((2 ^ 2 ^ k : Nat) : Int) - 1) = ((2 ^ 2 ^ k - 1 : Nat) : Int) := by have := Nat.one_le_two_pow (n := 2 ^ k); omega
      rw [← e]
      walk_at "lk"
end
end U
set_option maxHeartbeats 4100000
namespace U
open PySem L2 He
local macro_rules | `(tactic| walk_at "same") => `(tactic| first | (with_reducible assumption) | exact Same.refl _ | (refine Same.push ?_ (by assumption); walk_at "same") | (refine Same.own ?_ (by assumption); walk_at "same") | (refine Same.trans ?_ (by with_reducible assumption); walk_at "same"))
local macro_rules | `(tactic| walk_at "get") => `(tactic| first | assumption | exact upd_same | (refine get_push (by assumption) ?_; walk_at "get") | (refine get_ne (by assumption) ?_; walk_at "get") | (refine get_ne' (by assumption) ?_; walk_at "get") | (refine Same.get ?_ (by assumption); walk_at "same"))
local macro_rules | `(tactic| walk_at "has") => `(tactic| first | assumption | (refine Has.mono ?_ (by assumption); walk_at "same"))
local macro_rules | `(tactic| walk_at "sql") => `(tactic| first | assumption | exact SqL.of upd_same | exact SqL.of (by assumption) | (refine Same.seq ?_ (by assumption); walk_at "same") | (refine SqL.of ?_; walk_at "get"))
local macro_rules | `(tactic| walk_at "sqt") => `(tactic| first | assumption | exact SqT.of upd_same | exact SqT.of (by assumption) | (refine Same.tup ?_ (by assumption); walk_at "same") | (refine SqT.of ?_; walk_at "get"))
local macro_rules | `(tactic| walk_at "r1") => `(tactic| first | ((with_reducible refine ite_tt ?_ ?_); (focus exact rfl)) | ((with_reducible refine ite_ff ?_ ?_); (focus exact rfl)) | refine ⟨_, rfl, ?_⟩ | refine ⟨_, _, rfl, rfl, ?_⟩ | (refine ⟨rfl, ?_⟩) | refine ⟨(Int.natCast_nonneg _ : (0 : Int) ≤ _), ?_⟩ | refine ⟨_, _, rfl, ?_⟩ | refine ⟨_, _, _, rfl, ?_⟩ | (refine Has.ans (by walk_at "has") ?_) | refine ⟨_, _, _, _, rfl, rfl, (by walk_at "sql"), rfl, ?_⟩ | refine ⟨_, _, rfl, .inl (by walk_at "sql"), ?_⟩ | refine ⟨_, _, rfl, .inr (by walk_at "sqt"), ?_⟩ | refine ⟨_, _, _, _, rfl, rfl, (by walk_at "sqt"), rfl, ?_⟩ | refine ⟨_, _, rfl, (by walk_at "sqt"), rfl, ?_⟩ | refine ⟨_, _, _, _, rfl, (by walk_at "get"), (by assumption), (by assumption), (by walk_at "len"), ?_⟩ | refine ⟨_, _, _, _, _, rfl, (by walk_at "get"), (by assumption), (by assumption), (by walk_at "lk"), ?_⟩)
local macro_rules | `(tactic| walk_at "rd") => `(tactic| repeat walk_at "r1")
local macro_rules | `(tactic| walk_at "lk") => `(tactic| first | (with_reducible exact lk_hit) | (refine lk_miss (by decide +kernel) ?_; walk_at "lk") | rfl)
local macro_rules | `(tactic| walk_at "len") => `(tactic| (refine Nat.lt_of_le_of_lt (m := 60) ?_ (by decide); (repeat (refine len_put ?_)); exact Nat.zero_le _))
local macro_rules | `(tactic| walk_at "len9") => `(tactic| (refine Nat.le_trans (m := 60) ?_ (by decide); (repeat (refine len_put ?_)); exact Nat.zero_le _))
local macro_rules | `(tactic| walk_at "own") => `(tactic| first | assumption | (refine Same.own ?_ (by assumption); walk_at "own"))

section
variable {P : Program} {w : World} {base : Heap}
variable {K : PySem.W.Frag} {mg : Str → Option Value}
/-- the layers that stand -/
def knownL (l : UM.Lay) : List Nat := l.filterMap id
theorem known_take {l : UM.Lay} {i : Nat} {o : Option Nat} (h : l[i]? = some o) : knownL (l.take (i + 1)) = knownL (l.take i) ++ o.toList := by
  rw [List.take_add_one, h]
  unfold knownL
  rw [List.filterMap_append]
  cases o <;> rfl
theorem mem_knownL {l : UM.Lay} {v : Nat} : v ∈ knownL l ↔ ∃ d, UM.lay l d = some v := by
  unfold knownL
  rw [List.mem_filterMap]
  constructor
  · rintro ⟨o, ho, e⟩
    obtain ⟨d, hd, e2⟩ := List.getElem_of_mem ho
    exact ⟨d, by rw [UM.lay_of_get (List.getElem?_eq_getElem hd), e2]; exact e⟩
  · rintro ⟨d, hd⟩
    have := UM.lay_lt hd
    refine ⟨l[d], List.getElem_mem this, ?_⟩
    rw [UM.lay_of_get (List.getElem?_eq_getElem this)] at hd
    exact hd
theorem pw_lt {s i : Nat} (h : s < 2 ^ 24) (hi : i ≤ 16) : s ^ i < 2 ^ 400 := by
  refine Nat.lt_of_le_of_lt (Nat.pow_le_pow_left (Nat.le_of_lt h) _) ?_
  rw [← Nat.pow_mul]
  exact UM.p2lt (by omega)
def spBig (K : PySem.W.Frag) : Sp := fun vs H Q _ => ∃ (t : Addr) (l : UM.Lay) (s : Nat), vs = [.ref t, .int s] ∧ SqT K H t (l.map layV) ∧ Four l.length ∧ (∃ d v, UM.lay l d = some v) ∧ 1 ≤ s ∧ s < 2 ^ 24 ∧
  ∀ H' r ns, Same H H' → WeiAt K H' r ns → UM.Steps l s ns → UM.SmallW ns → Q (.ref r) H'
theorem sc_big_steps : FnScope ["layers", "step", "known", "worth", "weight", "layer"] ["layers", "step"] (defScope (top 60)) := ⟨rfl, rfl, rfl, by decide +kernel, rfl, by decide +kernel, by decide +kernel⟩
theorem ok_big_steps (T : Txt K mg) : Ok P w K mg base 4 (ga K "big_steps") ["layers", "step"] (spBig K) := by
  obtain ⟨fd, F⟩ := T.d_big_steps
  obtain ⟨_, G_is_weight, b_is_weight, k_is_weight⟩ := ok_is_weight (P := P) (w := w) (base := base) T
  obtain ⟨_, G_Weights_init, b_Weights_init, k_Weights_init⟩ := ok_Weights_init (P := P) (w := w) (base := base) T
  refine ⟨_, F.ok sc_big_steps (fun vs H Q E h => ?_) (fun cdv A outer s H vs Q E hr h => ?_), F.binds fun _ _ _ _ _ _ us hl => match us, hl with | [_, _], _ => rfl, F.kp⟩
  · obtain ⟨t, l, s', rfl, _⟩ := h
    rfl
  · obtain ⟨t, l, s', rfl, ht, hn, hv, hs1, hs24, q⟩ := h
    refine ⟨_, (pss_cons (ps_if (PW.pt (pw_or (pt_not (pt_val (pe_call G_is_weight (hr.mono (by decide)) rfl T.g_is_weight k_is_weight b_is_weight .nil pass0 (pa_cons (pv 1) pa_nil)))) (pw_or1 (pt_cmpR op_eq (pv 1) pe_int (nomark _))))) (pss_one ps_never) pss_nil)
      (pss_cons (ps_set (i := 0) sc_big_steps.nd rfl (Or.inl rfl) (pe_callTy call_list_of (by rfl) T.b_list (by decide +kernel) (pa_cons (pv 0) pa_nil)))
      (pss_cons (ps_setLc (i := 2) (own := [("layer", 5)]) rfl sc_big_steps.nd rfl rfl (sw_true rfl rfl rfl (by decide +kernel)) (pi_list (pv 0)) (blkOk_by (own := [("layer", 5)]) (N := ["layers", "step", "known", "worth", "weight", "layer"]) (sc := defScope (top 60)) (by decide +kernel)) (fun _ _ _ _ _ => (pg_name (i := 5) sc_big_steps.nd rfl (Or.inl rfl))) (fun _ _ _ _ _ => pts_one (pt_cmpR op_notN (pv 5) pe_non (nomark _))) (fun _ _ _ _ _ => (pv 5)))
      (pss_cons (ps_if (pt_cmpR (op_eqD hr.units) (pv 2) (pe_lst pa_nil) (nomark _)) (pss_one ps_never) pss_nil)
      (pss_cons (ps_set (i := 3) sc_big_steps.nd rfl (Or.inr rfl) pe_dnewK)
      (pss_cons (ps_set (i := 4) sc_big_steps.nd rfl (Or.inl rfl) pe_int)
      (pss_cons (ps_for PassesOwn.never rfl (pi_reversed (by rfl) T.b_reversed (pa_cons (pe_callB (cr_sortedSet rfl) (by rfl) T.b_sorted (by decide +kernel) (pa_cons (pe_callTy (cr_setL rfl) (by rfl) T.b_set (by decide +kernel) (pa_cons (pv 2) pa_nil)) pa_nil)) pa_nil)) (pg_name (i := 5) sc_big_steps.nd rfl (Or.inl rfl)) (pss_cons (ps_asg (pv 4) (pg_sub (pv 3) (pv 5) (set_dict (Nat.lt_of_le_of_lt (Nat.add_le_add_left (by decide) _) hr.units)))) (pss_one (ps_set (i := 4) sc_big_steps.nd rfl (Or.inl rfl) (pe_op op_mulW (pv 4) (pv 1)))))) (pss_one (ps_ret (pe_make T.mk_Weights G_Weights_init (hr.mono (by decide)) rfl T.g_Weights b_Weights_init .nil pass0 (pa_cons (pe_lc (own := [("layer", 5)]) rfl sc_big_steps.nd (pi_list (pv 0)) (blkOk_by (own := [("layer", 5)]) (N := ["layers", "step", "known", "worth", "weight", "layer"]) (sc := defScope (top 60)) (by decide +kernel)) (fun _ _ _ _ _ => (pg_name (i := 5) sc_big_steps.nd rfl (Or.inl rfl))) (fun _ _ _ _ _ => pts_nil) (fun _ _ _ _ _ => (pe_ifExp (pt_cmpR op_isN (pv 5) pe_non (nomark _)) pe_int (pe_dget (Nat.lt_of_le_of_lt (Nat.add_le_add_left (by decide) _) hr.units) (pv 3) (pv 5) (fun _ _ => rfl))))) pa_nil))))))))))), ?_⟩
    have hlen : l.length ≤ 16 := by rcases hn with h | h | h | h <;> omega
    walk_at "rd"
    have z1 : decide (V.int (s' : Int) = V.int 0) = false := vint_ne (by omega)
    rw [z1]
    walk_at "rd"
    intro LL hLL
    have e1 : Same H (upd H LL (.lst (l.map layV))) := Same.new hLL
    have hL1 : upd H LL (.lst (l.map layV)) LL = some (.lst (l.map layV)) := upd_same
    revert e1 hL1
    generalize upd H LL (.lst (l.map layV)) = H1
    intro e1 hL1
    walk_at "rd"
    refine ⟨⟨_, SqL.of hL1⟩, fun D hD => lc_it (walk_list (K := K) (a := LL) (xs := l.map layV)) (fun i H' => Same H1 H' ∧ H' D = some (.lst (nV (knownL (l.take i))))) ⟨Same.new hD, upd_same⟩ (fun i H' _ h => SqL.of (h.1 _ _ hL1)) ?_ ?_⟩
    · rintro i x H2 H3 hi ⟨e2, h2⟩ ⟨rfl, hx⟩
      obtain ⟨o, ho, rfl⟩ := get_map hx
      have kt := known_take ho
      walk_at "rd"
      cases o with
      | none =>
        walk_at "rd"
        refine ⟨e2, ?_⟩
        rw [kt]
        simpa using h2
      | some v =>
        walk_at "rd"
        refine ⟨_, h2, ?_, Same.own e2 hD, ?_⟩
        · rw [nV_len]
          have : (knownL (l.take i)).length ≤ (l.take i).length := List.length_filterMap_le _ _
          rw [List.length_take] at this
          rw [List.length_map] at hi
          exact Nat.lt_of_lt_of_le (by omega : _ < 16) (by decide)
        · rw [upd_same, kt]
          unfold nV
          rw [List.map_append]
          rfl
    · rintro H2 ⟨e2, h2⟩
      rw [List.length_map, List.take_length] at h2
      have kl : (knownL l).length ≤ 16 := Nat.le_trans (List.length_filterMap_le _ _) hlen
      walk_at "rd"
      refine ⟨by show 0 ≤ sizeLine; decide, fun eb heb => eq_empty (SqL.of (get_push heb h2)) nV_flat (SqL.of upd_same) ?_⟩
      have e3 : Same H1 (upd H2 eb (.lst [])) := Same.push e2 heb
      have h3 := get_push (u := .lst []) heb h2
      revert e3 h3
      generalize upd H2 eb (.lst []) = H3
      intro e3 h3
      have ne : (nV (knownL l)).isEmpty = false := by
        obtain ⟨d, v, hdv⟩ := hv
        have : v ∈ knownL l := mem_knownL.mpr ⟨d, hdv⟩
        cases h : knownL l with
        | nil => rw [h] at this; cases this
        | cons => rfl
      rw [ne]
      walk_at "rd"
      intro wd hwd
      have hwd1 : upd H3 wd (.dK []) wd = some (.dK []) := upd_same
      have e4 : Same H3 (upd H3 wd (.dK [])) := Same.new hwd
      have h4 := get_push (u := .dK []) hwd h3
      revert hwd1 e4 h4
      generalize upd H3 wd (.dK []) = H4
      intro hwd1 e4 h4
      walk_at "rd"
      refine ⟨D, (knownL l).map fun (d : Nat) => (d : Int), rfl, SqL.of (by rw [List.map_map]; exact h4), by rw [List.length_map]; omega, fun sa c hsa hc => ?_⟩
      walk_at "rd"
      refine ⟨sa, _, c, rfl, upd_same, by rw [List.length_map] at hc; omega, fun ks p hpw hmem hkl hp => ?_⟩
      walk_at "rd"
      have ksl : ks.length ≤ 16 := by rw [List.length_map] at hc; omega
      have hmem2 : ∀ d v, UM.lay l d = some v → (v : Int) ∈ ks.reverse := fun d v h => by
        rw [List.mem_reverse, hmem]
        exact decide_eq_true (List.mem_map.mpr ⟨v, mem_knownL.mpr ⟨d, h⟩, rfl⟩)
      have hpw2 : ks.reverse.Pairwise (fun a b => b < a) := List.pairwise_reverse.mpr hpw
      refine ⟨p, ks.map V.int, rfl, SqL.of upd_same, for_it (walk_rev (K := K) (a := p) (xs := ks.map V.int)) (fun i σ H' => ∃ (kvs : List (Key × V)) (v5 : Option V), σ = [some (.ref LL), some (.int s'), some (.ref D), some (.ref wd), some (.int (s' ^ i : Nat)), v5] ∧ Same H3 H' ∧ H' p = some (.lst (ks.map V.int)) ∧ H' wd = some (.dK kvs) ∧ kvs.length ≤ i ∧
        ∀ (j : Nat) (v : Int), j < i → ks.reverse[j]? = some v → valV kvs (.inl v) = some (.int (s' ^ j : Nat))) ⟨[], none, rfl, e4.trans (Same.push (Same.new hsa) hp), upd_same, get_push hp (get_push hsa hwd1), Nat.zero_le _, fun j v h => by omega⟩ (fun i σ H' _ h => by obtain ⟨_, _, _, _, h, _⟩ := h; exact SqL.of h) ?_ ?_⟩
      · rintro i x σ H5 H6 hi ⟨kvs, v5, rfl, e5, h5p, h5w, hkl5, hv5⟩ ⟨rfl, hx⟩
        rw [List.length_map] at hi hx
        obtain ⟨k, hk, rfl⟩ := get_map hx
        have hkr : ks.reverse[i]? = some k := by rw [List.getElem?_reverse hi]; exact hk
        have nwp : wd ≠ p := ne_of h5w h5p (by intro z; cases z)
        walk_at "rd"
        refine ⟨wd, _, rfl, DPut.k (k := .inl k) h5w (Nat.lt_of_le_of_lt hkl5 (Nat.lt_of_lt_of_le (by omega : i < 16) (by decide))), ?_⟩
        walk_at "rd"
        refine ⟨wide_mul (nlt (pw_lt hs24 (i := i) (by omega))) (nlt hs24) (by decide) (by decide) (by decide), ?_⟩
        walk_at "rd"
        refine ⟨putK kvs (.inl k) (.int (s' ^ i : Nat)), some (.int k), ?_, Same.own e5 hwd, by rw [upd_ne nwp.symm]; exact h5p, upd_same, Nat.le_trans (length_putK _ _ _) (Nat.succ_le_succ hkl5), fun j v hj hjv => ?_⟩
        · have e : ((s' ^ (i + 1) : Nat) : Int) = ((s' ^ i : Nat) : Int) * (s' : Int) := by rw [Nat.pow_succ, Int.natCast_mul]
          rw [e]
          rfl
        · rw [valV_put]
          by_cases c : j = i
          · subst c
            rw [hkr] at hjv
            cases hjv
            rw [if_pos rfl]
          · rw [if_neg (fun z => by
              have z2 : v = k := Sum.inl.inj z
              subst z2
              obtain ⟨lj, ej⟩ := List.getElem?_eq_some_iff.mp hjv
              obtain ⟨li, ei⟩ := List.getElem?_eq_some_iff.mp hkr
              have := List.pairwise_iff_getElem.mp hpw2 j i lj li (by omega)
              rw [ej, ei] at this
              omega)]
            exact hv5 j v (by omega) hjv
      · rintro σ H5 ⟨kvs, v5, rfl, e5, h5p, h5w, hkl5, hv5⟩
        rw [List.length_map] at hv5
        have e35 := (e3.trans e5)
        have hL5 := e35 _ _ hL1
        walk_at "rd"
        refine ⟨⟨_, SqL.of hL5⟩, fun C hC => lc_it (walk_list (K := K) (a := LL) (xs := l.map layV)) (fun i H' => Same H5 H' ∧ H' C = some (.lst (nV ((l.take i).map (UM.stepW ks.reverse s'))))) ⟨Same.new hC, upd_same⟩ (fun i H' _ h => SqL.of (h.1 _ _ hL5)) ?_ ?_⟩
        · rintro i x H6 H7 hi ⟨e6, h6⟩ ⟨rfl, hx⟩
          obtain ⟨o, ho, rfl⟩ := get_map hx
          rw [List.length_map] at hi
          have fin : ∃ acc, H7 C = some (.lst acc) ∧ acc.length < sizeLine ∧ (Same H5 (upd H7 C (.lst (acc ++ [V.int (UM.stepW ks.reverse s' o : Nat)]))) ∧ upd H7 C (.lst (acc ++ [V.int (UM.stepW ks.reverse s' o : Nat)])) C = some (.lst (nV ((l.take (i + 1)).map (UM.stepW ks.reverse s'))))) := by
            refine ⟨_, h6, ?_, Same.own e6 hC, ?_⟩
            · rw [nV_len, List.length_map, List.length_take]
              exact Nat.lt_of_le_of_lt (Nat.min_le_left _ _) (Nat.lt_of_lt_of_le (by omega : i < 16) (by decide))
            · rw [upd_same, List.take_add_one, ho, List.map_append]
              unfold nV
              rw [List.map_append]
              rfl
          walk_at "rd"
          cases o with
          | none =>
            walk_at "rd"
            exact fin
          | some v =>
            walk_at "rd"
            have hin := hmem2 i v (UM.lay_of_get ho)
            have iv := List.idxOf_lt_length_of_mem hin
            have hval := hv5 (ks.reverse.idxOf (v : Int)) (v : Int) (by rw [List.length_reverse] at iv; exact iv) (by rw [List.getElem?_eq_getElem iv, List.getElem_idxOf])
            have hg := DGet.k (k := .inl (v : Int)) (e6 _ _ h5w)
            rw [hval] at hg
            exact ⟨wd, _, rfl, hg, fin⟩
        · rintro H6 ⟨e6, h6⟩
          rw [List.length_map, List.take_length] at h6
          walk_at "rd"
          intro x dx nx ndx nex
          have S := UM.steps_of hs1 hpw2 hmem2
          refine ⟨H6, x, dx, C, _, rfl, upd_same, Same.mk nx ndx, nx, SqL.of h6, by rw [List.length_map]; exact hn, ?_, fun H7 e7 hW => ⟨rfl, q H7 x _ (e1.trans (e35.trans (e6.trans e7))) hW S (UM.steps_small hs24 hs1 hlen (by rw [List.length_reverse]; exact ksl) hmem2)⟩⟩
          obtain ⟨d, v, hdv⟩ := hv
          have hd := UM.lay_lt hdv
          have hg : (l.map (UM.stepW ks.reverse s'))[d]? = some (UM.stepW ks.reverse s' l[d]) := by rw [List.getElem?_map, List.getElem?_eq_getElem hd]; rfl
          exact ⟨_, List.mem_of_getElem? hg, S.pos d _ v hg hdv⟩
end
end U
set_option maxHeartbeats 4100000
namespace U
open PySem L2 He
local macro_rules | `(tactic| walk_at "same") => `(tactic| first | (with_reducible assumption) | exact Same.refl _ | (refine Same.push ?_ (by assumption); walk_at "same") | (refine Same.own ?_ (by assumption); walk_at "same") | (refine Same.trans ?_ (by with_reducible assumption); walk_at "same"))
local macro_rules | `(tactic| walk_at "get") => `(tactic| first | assumption | exact upd_same | (refine get_push (by assumption) ?_; walk_at "get") | (refine get_ne (by assumption) ?_; walk_at "get") | (refine get_ne' (by assumption) ?_; walk_at "get") | (refine Same.get ?_ (by assumption); walk_at "same"))
local macro_rules | `(tactic| walk_at "has") => `(tactic| first | assumption | (refine Has.mono ?_ (by assumption); walk_at "same"))
local macro_rules | `(tactic| walk_at "sql") => `(tactic| first | assumption | exact SqL.of upd_same | exact SqL.of (by assumption) | (refine Same.seq ?_ (by assumption); walk_at "same") | (refine SqL.of ?_; walk_at "get"))
local macro_rules | `(tactic| walk_at "sqt") => `(tactic| first | assumption | exact SqT.of upd_same | exact SqT.of (by assumption) | (refine Same.tup ?_ (by assumption); walk_at "same") | (refine SqT.of ?_; walk_at "get"))
local macro_rules | `(tactic| walk_at "r1") => `(tactic| first | ((with_reducible refine ite_tt ?_ ?_); (focus exact rfl)) | ((with_reducible refine ite_ff ?_ ?_); (focus exact rfl)) | refine ⟨_, rfl, ?_⟩ | refine ⟨_, _, rfl, rfl, ?_⟩ | (refine ⟨rfl, ?_⟩) | refine ⟨(Int.natCast_nonneg _ : (0 : Int) ≤ _), ?_⟩ | refine ⟨_, _, rfl, ?_⟩ | refine ⟨_, _, _, rfl, ?_⟩ | (refine Has.ans (by walk_at "has") ?_) | refine ⟨_, _, _, _, rfl, rfl, (by walk_at "sql"), rfl, ?_⟩ | refine ⟨_, _, rfl, .inl (by walk_at "sql"), ?_⟩ | refine ⟨_, _, rfl, .inr (by walk_at "sqt"), ?_⟩ | refine ⟨_, _, _, _, rfl, rfl, (by walk_at "sqt"), rfl, ?_⟩ | refine ⟨_, _, rfl, (by walk_at "sqt"), rfl, ?_⟩ | refine ⟨_, _, _, _, rfl, (by walk_at "get"), (by assumption), (by assumption), (by walk_at "len"), ?_⟩ | refine ⟨_, _, _, _, _, rfl, (by walk_at "get"), (by assumption), (by assumption), (by walk_at "lk"), ?_⟩)
local macro_rules | `(tactic| walk_at "rd") => `(tactic| repeat walk_at "r1")
local macro_rules | `(tactic| walk_at "lk") => `(tactic| first | (with_reducible exact lk_hit) | (refine lk_miss (by decide +kernel) ?_; walk_at "lk") | rfl)
local macro_rules | `(tactic| walk_at "len") => `(tactic| (refine Nat.lt_of_le_of_lt (m := 60) ?_ (by decide); (repeat (refine len_put ?_)); exact Nat.zero_le _))
local macro_rules | `(tactic| walk_at "len9") => `(tactic| (refine Nat.le_trans (m := 60) ?_ (by decide); (repeat (refine len_put ?_)); exact Nat.zero_le _))
local macro_rules | `(tactic| walk_at "own") => `(tactic| first | assumption | (refine Same.own ?_ (by assumption); walk_at "own"))

section
variable {P : Program} {w : World} {base : Heap}
variable {K : PySem.W.Frag} {mg : Str → Option Value}
/-- a def with one keyword-only default -/
def Okk (P : Program) (w : World) (K : PySem.W.Frag) (mg : Str → Option Value) (base : Heap) (k : Nat) (f : Addr) (ps : List Str) (nm : Str) (dv : V) (sp : Sp) : Prop :=
  ∃ fd ds, FnOk P w K mg base CX0 k f fd ps sp ∧ Vals [dv] ds ∧ Binds K fd ps ds ∧ KBn K fd ps 2 [nm] (fun us ws => us ++ ws) (fun vs zs => vs ++ zs) ∧ PySem.W.keepIn K (.ref f) = true
/-- the numbers of the sayings confirmed within E -/
def lotOf (ps : List UM.P) (E : Nat) : List Nat := UM.fm (fun i p => if UM.Sub p.1 E then some i else none) ps
theorem lotOf_take {ps : List UM.P} {E i : Nat} {p : UM.P} (h : ps[i]? = some p) : lotOf (ps.take (i + 1)) E = lotOf (ps.take i) E ++ (if UM.Sub p.1 E then [i] else []) := by
  unfold lotOf
  rw [UM.fm_succ _ h]
  split <;> rfl
/-- what sum_bound answers -/
def SumAns (K : PySem.W.Frag) (H : Hp) (r : Addr) (n : Nat) (ps : List UM.P) (s : UM.P) (parts : Nat) (l : UM.Lay) : Prop :=
  (UM.Sub s.2 (UM.maskL (UM.openL l)) ∧ ∃ t, BoundAt0 K H r t ∧ H t = some (.tup (nV (lotOf ps (UM.maskL (UM.openL l)))))) ∨
  (¬ UM.Sub s.2 (UM.maskL (UM.openL l)) ∧ ∃ q ns, ExcAt0 K H r q ∧ WeiAt K H q ns ∧ UM.Steps l (n * max parts (2 * ps.length + 2)) ns ∧ UM.SmallW ns)
def spBoundS (K : PySem.W.Frag) : Sp := fun vs H Q _ => ∃ (b a : Addr) (n : Nat) (xs : List V) (ps : List UM.P) (c b' t parts : Nat), vs = [.ref b, .ref a, .int parts] ∧ BookAt K H b n xs ps ∧ SayAt K H a c b' t true ∧ SayP n c b' t ∧ Four n ∧ xs.length ≤ 12 ∧ 1 ≤ parts ∧ parts ≤ 1000000 ∧
  ∀ H' r l, Same H H' → UM.Done (UM.rowsU ps ++ [UM.rowF (c, b')]) n l → SumAns K H' r n ps (c, b') parts l → Q (.ref r) H'
theorem sc_sum_bound : FnScope ["book", "saying", "parts", "layers", "endless", "step", "day", "layer", "number", "each"] ["book", "saying", "parts"] (defScope (top 74)) := ⟨rfl, rfl, rfl, by decide +kernel, rfl, by decide +kernel, by decide +kernel⟩
theorem ok_sum_bound (T : Txt K mg) : Okk P w K mg base 6 (ga K "sum_bound") ["book", "saying", "parts"] "parts" (.int 2) (spBoundS K) := by
  obtain ⟨fd, F⟩ := T.d_sum_bound
  obtain ⟨_, G_check_asked, b_check_asked, k_check_asked⟩ := ok_check_asked (P := P) (w := w) (base := base) T
  obtain ⟨_, G_is_whole, b_is_whole, k_is_whole⟩ := ok_is_whole (P := P) (w := w) (base := base) T
  obtain ⟨G_lifted_layers, k_lifted_layers⟩ := ok_lifted_layers (P := P) (w := w) (base := base) T
  obtain ⟨_, G_Saying_flipped, b_Saying_flipped, k_Saying_flipped⟩ := ok_Saying_flipped (P := P) (w := w) (base := base) T
  obtain ⟨_, G_within, b_within, k_within⟩ := ok_within (P := P) (w := w) (base := base) T
  obtain ⟨_, G_Bounded_init, b_Bounded_init, k_Bounded_init⟩ := ok_Bounded_init (P := P) (w := w) (base := base) T
  obtain ⟨_, G_Book_len, b_Book_len, k_Book_len⟩ := ok_Book_len (P := P) (w := w) (base := base) T
  obtain ⟨_, G_Exceeds_init, b_Exceeds_init, k_Exceeds_init⟩ := ok_Exceeds_init (P := P) (w := w) (base := base) T
  obtain ⟨_, G_big_steps, b_big_steps, k_big_steps⟩ := ok_big_steps (P := P) (w := w) (base := base) T
  obtain ⟨_, gc_MOST_PARTS⟩ := T.c_MOST_PARTS
  have kp := F.kp
  obtain ⟨ds, rd, hb⟩ := F.binds0 (ps := ["book", "saying", "parts"]) 2 (by simp) rfl fun D doc pm an cdv ct us ks h1 h2 => match us, h1, ks, h2 with | [a, b], _, [c], _ => ⟨_, _, _, _, _, _, rfl, rfl, rfl⟩
  have hkb : KBn K fd ["book", "saying", "parts"] 2 ["parts"] (fun us ws => us ++ ws) (fun vs zs => vs ++ zs) := by
    obtain ⟨oc, od, dV, kV, doc, pm, an, cdv, ct, sls, rfl, lk, hcd, dfl, hK⟩ := F.ex
    rcases dfl with ⟨_, rfl⟩ | ⟨e, _⟩
    · exact ⟨fun s us ws X l1 l2 => match us, l1, ws, l2 with | [a, b], _, [c], _ => .of_eq rfl, fun r1 r2 => r1.append r2⟩
    · exact absurd rfl e
  refine ⟨_, ds, F.ok sc_sum_bound (fun vs H Q E h => ?_) (fun cdv A outer s H vs Q E hr h => ?_), rd, hb, hkb, kp⟩
  · obtain ⟨b, a, n, xs, ps, c, b', t, parts, rfl, _⟩ := h
    rfl
  · obtain ⟨b, a, n, xs, ps, c, b', t, parts, rfl, hB, ha, hP, hn4, hx, hp1, hp6, q⟩ := h
    refine ⟨_, PSs.nox (pss_cons (ps_expr (pe_call G_check_asked (hr.mono (by decide)) rfl T.g_check_asked k_check_asked b_check_asked .nil pass0 (pa_cons (pv 0) (pa_cons (pv 1) pa_nil))))
      (pss_cons (ps_if (pt_not (pt_val (pe_call G_is_whole (hr.mono (by decide)) rfl T.g_is_whole k_is_whole b_is_whole .nil pass0 (pa_cons (pv 2) (pa_cons pe_int (pa_cons (pe_glob (v := .int 1000000) rfl gc_MOST_PARTS ⟨_, rfl⟩) pa_nil)))))) (pss_one ps_never) pss_nil)
      (pss_cons (ps_set (i := 3) sc_sum_bound.nd rfl (Or.inl rfl) (pe_callF G_lifted_layers (hr.mono (by decide)) rfl T.g_lifted_layers k_lifted_layers pass0 (pa_cons (pv 0) (pa_cons (pe_meth0 (pv 1) T.c_Saying T.m_Saying_flipped G_Saying_flipped (hr.mono (by decide)) b_Saying_flipped .nil pass0) pa_nil))))
      (pss_cons (ps_set (i := 4) sc_sum_bound.nd rfl (Or.inr rfl) (pe_callB (cr_sum rfl) (by rfl) T.b_sum (by decide +kernel) (pa_cons (pe_lc (own := [("day", 6), ("layer", 7)]) rfl sc_sum_bound.nd (pi_enumT (by rfl) T.b_enumerate (pa_cons (pv 3) pa_nil)) (blkOk_by (own := [("day", 6), ("layer", 7)]) (N := ["book", "saying", "parts", "layers", "endless", "step", "day", "layer", "number", "each"]) (sc := defScope (top 74)) (by decide +kernel)) (fun _ _ _ _ _ => (kgtup (K := K) (n := 2) rfl (pgs_cons (pg_name (i := 6) sc_sum_bound.nd rfl (Or.inl rfl)) (pgs_cons (pg_name (i := 7) sc_sum_bound.nd rfl (Or.inl rfl)) pgs_nil)) rfl)) (fun _ _ _ _ _ => pts_one (pt_cmpR op_isN (pv 7) pe_non (nomark _))) (fun _ _ _ _ _ => (pe_op op_shl pe_int (pv 6)))) pa_nil)))
      (pss_cons (ps_if (pt_val (pe_call G_within (hr.mono (by decide)) rfl T.g_within k_within b_within .nil pass0 (pa_cons (pe_fld (pv 1) rfl) (pa_cons (pv 4) pa_nil)))) (pss_one (ps_ret (pe_make T.mk_Bounded G_Bounded_init (hr.mono (by decide)) rfl T.g_Bounded b_Bounded_init .nil pass0 (pa_cons (pe_callTy call_tuple_of (by rfl) T.b_tuple (by decide +kernel) (pa_cons (pe_lc (own := [("number", 8), ("each", 9)]) rfl sc_sum_bound.nd (pi_enumO (k := 2) T.m_Book_iter (hr.mono (by decide)) (by rfl) T.b_enumerate (pa_cons (pv 0) pa_nil)) (blkOk_by (own := [("number", 8), ("each", 9)]) (N := ["book", "saying", "parts", "layers", "endless", "step", "day", "layer", "number", "each"]) (sc := defScope (top 74)) (by decide +kernel)) (fun _ _ _ _ _ => (kgtup (K := K) (n := 2) rfl (pgs_cons (pg_name (i := 8) sc_sum_bound.nd rfl (Or.inl rfl)) (pgs_cons (pg_name (i := 9) sc_sum_bound.nd rfl (Or.inl rfl)) pgs_nil)) rfl)) (fun _ _ _ _ _ => pts_one (pt_val (pe_call G_within (hr.mono (by decide)) rfl T.g_within k_within b_within .nil pass0 (pa_cons (kfld (K := K) (pv 9) rfl rfl) (pa_cons (pv 4) pa_nil))))) (fun _ _ _ _ _ => (pv 8))) pa_nil)) pa_nil)))) pss_nil)
      (pss_cons (ps_set (i := 5) sc_sum_bound.nd rfl (Or.inl rfl) (pe_op op_mulW (pe_fld (pe_fld (pv 0) rfl) rfl) (pe_callB (call_max2 rfl) (by rfl) T.b_max (by decide +kernel) (pa_cons (pv 2) (pa_cons (pe_op op_add (pe_op op_mulW pe_int (pe_callB (call_lenOwn T.m_Book_len (raw0 G_Book_len b_Book_len) (hr.mono (by decide)) pass0) (by rfl) T.b_len (by decide +kernel) (pa_cons (pv 0) pa_nil))) pe_int) pa_nil))))) (pss_one (ps_ret (pe_make T.mk_Exceeds G_Exceeds_init (hr.mono (by decide)) rfl T.g_Exceeds b_Exceeds_init .nil pass0 (pa_cons (pe_call G_big_steps (hr.mono (by decide)) rfl T.g_big_steps k_big_steps b_big_steps .nil pass0 (pa_cons (pv 3) (pa_cons (pv 5) pa_nil))) pa_nil)))))))))), ?_⟩
    have hn : n ≤ 16 := hP.n16
    have hn0 : 0 < n := by rcases hn4 with h | h | h | h <;> omega
    obtain ⟨m, t', hb0, hm, ht, hs⟩ := id hB
    have f1 := hb0.f_marks T; have f2 := hm.f_days T
    have g1 := ha.f_broken T
    obtain ⟨dxb, fsb, hbe⟩ := hb0.ins
    walk_at "rd"
    refine ⟨n, c, b', t, b, a, xs, ps, rfl, hB, ha, hP, fun H1 e1 => ?_⟩
    walk_at "rd"
    have z1 : (decide ((1 : Int) ≤ (parts : Int)) && decide ((parts : Int) ≤ 1000000)) = true := by simp; omega
    rw [z1]
    walk_at "rd"
    obtain ⟨dx, fs, hpe, hlk⟩ := (ha.mono e1).m_flipped
    refine ⟨a, dx, fs, rfl, hpe, hlk, ?_⟩
    walk_at "rd"
    refine ⟨a, n, c, b', t, true, rfl, ha.mono e1, hP, fun H2 r2 e2 h2 => ?_⟩
    have e12 := e1.trans e2
    walk_at "rd"
    refine ⟨b, r2, n, xs, ps, b', c, b', true, rfl, hB.mono e12, h2, hP.flip, hn0, hn, hx, fun H3 r l e3 hr0 hr3 hd => ?_⟩
    have e13 := e12.trans e3
    have hll : l.length = n := hd.len
    walk_at "rd"
    refine ⟨r, _, rfl, SqT.of hr3, fun D hD => lc_it (walk_enumT (K := K) (a := r) (xs := l.map layV)) (fun i H' => Same H3 H' ∧ H' D = some (.lst ((UM.openL (l.take i)).map fun (d : Nat) => V.int ((2 ^ d : Nat) : Int)))) ⟨Same.new hD, upd_same⟩ (fun i H' _ h => SqT.of (h.1 _ _ hr3)) ?_ ?_⟩
    · rintro i x H4 H5 hi ⟨e4, h4⟩ ⟨Tp, y1, y2, rfl, hT, rfl, hy1, hy2⟩
      cases hy1
      obtain ⟨z, hz, rfl⟩ := get_map hy2
      rw [List.length_map, hll] at hi
      have s2 : Same H3 (upd H4 Tp (.tup [.int (i : Nat), layV z])) := Same.push e4 hT
      have nD : D ≠ Tp := ne_of_none h4 hT
      have ot := openL_take l hz
      walk_at "rd"
      cases z with
      | none =>
        walk_at "rd"
        refine ⟨⟨Int.natCast_nonneg _, by omega, by decide⟩, ?_⟩
        walk_at "rd"
        refine ⟨_, by rw [upd_ne nD]; exact h4, ?_, Same.own s2 hD, ?_⟩
        · rw [List.length_map]
          exact Nat.lt_of_le_of_lt (UM.fm_len_take _ l i) (Nat.lt_of_lt_of_le (by omega : i < 16) (by decide))
        · simp only [shl_one]
          rw [upd_same, ot, if_pos rfl, List.map_append]
          rfl
      | some v =>
        walk_at "rd"
        refine ⟨s2, ?_⟩
        rw [upd_ne nD, h4, ot, if_neg (by simp), List.append_nil]
    · rintro H4 ⟨e4, h4⟩
      rw [List.length_map, List.take_length] at h4
      walk_at "rd"
      refine ⟨D, (UM.openL l).map fun (d : Nat) => ((2 ^ d : Nat) : Int), rfl, SqL.of (by rw [List.map_map]; exact h4), ?_⟩
      rw [sum_pow]
      have e14 := e13.trans e4
      have ha4 := ha.mono e14
      have g2 := ha4.f_broken T
      walk_at "rd"
      have hb4 := hb0.mono e14
      have ht4 := Same.tup e14 ht
      have hbe4 := e14 _ _ hbe
      have hps : xs.length = ps.length := hs.1
      by_cases hE : UM.Sub b' (UM.maskL (UM.openL l))
      · rw [decide_eq_true hE]
        walk_at "rd"
        refine ⟨b, dxb, fsb, t', xs, rfl, hbe4, ht4, fun A' s' hr' e0' => iter_Book T _ hb4 ht4 A' s' hr' e0', fun D2 hD2 => ?_⟩
        refine lc_it (walk_enumT (K := K) (a := t') (xs := xs)) (fun i H' => Same H4 H' ∧ H' D2 = some (.lst (nV (lotOf (ps.take i) (UM.maskL (UM.openL l)))))) ⟨Same.new hD2, upd_same⟩ (fun i H' _ h => Same.tup h.1 ht4) ?_ ?_
        · rintro i x H5 H6 hi ⟨e5, h5⟩ ⟨Tp, y1, y2, rfl, hT, rfl, hy1, hy2⟩
          cases hy1
          obtain ⟨pp, aa, tt, hp1, rfl, hp3, hp4⟩ := hs.2 i y2 hy2
          have e6 : Same H4 (upd H5 Tp (.tup [.int (i : Nat), .ref aa])) := Same.push e5 hT
          have nD : D2 ≠ Tp := ne_of_none h5 hT
          have g3 := (hp3.mono (e14.trans e6)).f_confirm T
          have lt := lotOf_take (E := UM.maskL (UM.openL l)) hp1
          walk_at "rd"
          by_cases hc : UM.Sub pp.1 (UM.maskL (UM.openL l))
          · rw [decide_eq_true hc]
            rw [if_pos hc] at lt
            walk_at "rd"
            refine ⟨_, by rw [upd_ne nD]; exact h5, ?_, Same.own e6 hD2, ?_⟩
            · rw [nV_len]
              exact Nat.lt_of_le_of_lt (UM.fm_len_take _ ps i) (Nat.lt_of_lt_of_le (by omega : i < 12) (by decide))
            · rw [upd_same, lt]
              unfold nV
              rw [List.map_append]
              rfl
          · rw [decide_eq_false hc]
            rw [if_neg hc, List.append_nil] at lt
            walk_at "rd"
            refine ⟨e6, ?_⟩
            rw [upd_ne nD, lt]
            exact h5
        · rintro H5 ⟨e5, h5⟩
          rw [hps, List.take_length] at h5
          walk_at "rd"
          refine ⟨D2, _, rfl, .inl ⟨SqL.of h5, fun tt htt => ?_⟩⟩
          walk_at "rd"
          intro x2 dx2 nx2 ndx2 nex2
          have e6 : Same H5 (upd H5 tt (.tup (nV (lotOf ps (UM.maskL (UM.openL l)))))) := Same.new htt
          exact ⟨_, x2, dx2, tt, rfl, upd_same, Same.mk nx2 ndx2, nx2, fun H6 e7 hbd => ⟨rfl, q H6 x2 l (e14.trans (e5.trans (e6.trans e7))) hd (.inl ⟨hE, tt, hbd, e7 _ _ upd_same⟩)⟩⟩
      · rw [decide_eq_false hE]
        have f1' := f1.mono e14
        have f2' := f2.mono e14
        walk_at "rd"
        refine ⟨b, dxb, fsb, rfl, hbe4, b, m, t', xs, rfl, hb4, ht4, _, rfl, Int.natCast_nonneg _, by omega, ?_⟩
        walk_at "rd"
        refine ⟨wide_mul (a := 2) (b := 8) (by decide) (nlt (by omega)) (by decide) (by decide) (by decide), ?_⟩
        walk_at "rd"
        have em : (if (2 * (xs.length : Int) + 2) > (parts : Int) then (2 * (xs.length : Int) + 2) else (parts : Int)) = ((max parts (2 * ps.length + 2) : Nat) : Int) := by
          rw [hps]
          split <;> omega
        have mb : max parts (2 * ps.length + 2) ≤ 1000000 := by omega
        simp only [em]
        refine ⟨wide_mul (a := 5) (b := 20) (nlt (by omega)) (nlt (by omega)) (by decide) (by decide) (by decide), ?_⟩
        walk_at "rd"
        have ep : ((n : Int) * ((max parts (2 * ps.length + 2) : Nat) : Int)) = ((n * max parts (2 * ps.length + 2) : Nat) : Int) := (Int.natCast_mul _ _).symm
        simp only [ep]
        have pm : 1 ≤ n * max parts (2 * ps.length + 2) := Nat.mul_pos hn0 (by omega)
        have pu : n * max parts (2 * ps.length + 2) < 2 ^ 24 := Nat.lt_of_le_of_lt (Nat.mul_le_mul hn mb) (by decide)
        walk_at "rd"
        refine ⟨r, l, _, rfl, SqT.of (e4 _ _ hr3), by rw [hll]; exact hn4, UM.some_lay (UM.end_maskL l) (by rw [hll]; exact hP.b1) hE, pm, pu, fun H5 w5 ns e5 hW hSt hSm => ?_⟩
        walk_at "rd"
        intro x2 dx2 nx2 ndx2 nex2
        exact ⟨_, x2, dx2, w5, rfl, upd_same, Same.mk nx2 ndx2, nx2, fun H6 e7 hex => ⟨rfl, q H6 x2 l (e14.trans (e5.trans e7)) hd (.inr ⟨hE, w5, ns, hex, hW.mono e7, hSt, hSm⟩)⟩⟩
end
end U
set_option maxHeartbeats 4100000
namespace U
open PySem L2 He
local macro_rules | `(tactic| walk_at "same") => `(tactic| first | (with_reducible assumption) | exact Same.refl _ | (refine Same.push ?_ (by assumption); walk_at "same") | (refine Same.own ?_ (by assumption); walk_at "same") | (refine Same.trans ?_ (by with_reducible assumption); walk_at "same"))
local macro_rules | `(tactic| walk_at "get") => `(tactic| first | assumption | exact upd_same | (refine get_push (by assumption) ?_; walk_at "get") | (refine get_ne (by assumption) ?_; walk_at "get") | (refine get_ne' (by assumption) ?_; walk_at "get") | (refine Same.get ?_ (by assumption); walk_at "same"))
local macro_rules | `(tactic| walk_at "has") => `(tactic| first | assumption | (refine Has.mono ?_ (by assumption); walk_at "same"))
local macro_rules | `(tactic| walk_at "sql") => `(tactic| first | assumption | exact SqL.of upd_same | exact SqL.of (by assumption) | (refine Same.seq ?_ (by assumption); walk_at "same") | (refine SqL.of ?_; walk_at "get"))
local macro_rules | `(tactic| walk_at "sqt") => `(tactic| first | assumption | exact SqT.of upd_same | exact SqT.of (by assumption) | (refine Same.tup ?_ (by assumption); walk_at "same") | (refine SqT.of ?_; walk_at "get"))
local macro_rules | `(tactic| walk_at "r1") => `(tactic| first | ((with_reducible refine ite_tt ?_ ?_); (focus exact rfl)) | ((with_reducible refine ite_ff ?_ ?_); (focus exact rfl)) | refine ⟨_, rfl, ?_⟩ | refine ⟨_, _, rfl, rfl, ?_⟩ | (refine ⟨rfl, ?_⟩) | refine ⟨(Int.natCast_nonneg _ : (0 : Int) ≤ _), ?_⟩ | refine ⟨_, _, rfl, ?_⟩ | refine ⟨_, _, _, rfl, ?_⟩ | (refine Has.ans (by walk_at "has") ?_) | refine ⟨_, _, _, _, rfl, rfl, (by walk_at "sql"), rfl, ?_⟩ | refine ⟨_, _, rfl, .inl (by walk_at "sql"), ?_⟩ | refine ⟨_, _, rfl, .inr (by walk_at "sqt"), ?_⟩ | refine ⟨_, _, _, _, rfl, rfl, (by walk_at "sqt"), rfl, ?_⟩ | refine ⟨_, _, rfl, (by walk_at "sqt"), rfl, ?_⟩ | refine ⟨_, _, _, _, rfl, (by walk_at "get"), (by assumption), (by assumption), (by walk_at "len"), ?_⟩ | refine ⟨_, _, _, _, _, rfl, (by walk_at "get"), (by assumption), (by assumption), (by walk_at "lk"), ?_⟩)
local macro_rules | `(tactic| walk_at "rd") => `(tactic| repeat walk_at "r1")
local macro_rules | `(tactic| walk_at "lk") => `(tactic| first | (with_reducible exact lk_hit) | (refine lk_miss (by decide +kernel) ?_; walk_at "lk") | rfl)
local macro_rules | `(tactic| walk_at "len") => `(tactic| (refine Nat.lt_of_le_of_lt (m := 60) ?_ (by decide); (repeat (refine len_put ?_)); exact Nat.zero_le _))
local macro_rules | `(tactic| walk_at "len9") => `(tactic| (refine Nat.le_trans (m := 60) ?_ (by decide); (repeat (refine len_put ?_)); exact Nat.zero_le _))
local macro_rules | `(tactic| walk_at "own") => `(tactic| first | assumption | (refine Same.own ?_ (by assumption); walk_at "own"))

section
variable {P : Program} {w : World} {base : Heap}
variable {K : PySem.W.Frag} {mg : Str → Option Value}
/-- the sayings of a lot -/
def atL (ps : List UM.P) (lot : List Nat) : List UM.P := lot.map fun i => ps.getD i (0, 0)
theorem atL_take {ps : List UM.P} {lot : List Nat} {i k : Nat} (h : lot[i]? = some k) : atL ps (lot.take (i + 1)) = atL ps (lot.take i) ++ [ps.getD k (0, 0)] := by
  unfold atL
  rw [List.take_add_one, h, List.map_append]
  rfl
theorem SaysOf.snoc {H : Hp} {n : Nat} {xs : List V} {ps : List UM.P} {p : UM.P} {a : Addr} {t : Nat} (h : SaysOf K H n xs ps) (ha : SayAt K H a p.1 p.2 t true) (hp : SayP n p.1 p.2 t) : SaysOf K H n (xs ++ [.ref a]) (ps ++ [p]) := by
  refine ⟨by simp [h.1], fun i v hv => ?_⟩
  by_cases c : i < xs.length
  · rw [List.getElem?_append_left c] at hv
    obtain ⟨r', a', t', h1, h2⟩ := h.2 i v hv
    exact ⟨r', a', t', by rw [List.getElem?_append_left (by rw [← h.1]; exact c)]; exact h1, h2⟩
  · have hi : i = xs.length := by
      have := (List.getElem?_eq_some_iff.mp hv).1
      simp at this
      omega
    subst hi
    simp at hv
    subst hv
    exact ⟨p, a, t, by rw [h.1]; simp, rfl, ha, hp⟩
def spIsSharp (K : PySem.W.Frag) : Sp := fun vs H Q _ => ∃ (b lt a : Addr) (n : Nat) (xs : List V) (ps : List UM.P) (lot : List Nat) (c b' t : Nat), vs = [.ref b, .ref lt, .ref a] ∧ BookAt K H b n xs ps ∧ SqT K H lt (nV lot) ∧ (∀ i ∈ lot, i < ps.length) ∧ lot.length ≤ 60 ∧ n ≤ 16 ∧ SayAt K H a c b' t true ∧ SayP n c b' t ∧
  ∀ H', Same H H' → Q (.bl (UM.sharp (UM.joinP (atL ps lot)) (c, b'))) H'
theorem sc_is_sharp : FnScope ["book", "lot", "saying", "number"] ["book", "lot", "saying"] (defScope (top 94)) := ⟨rfl, rfl, rfl, by decide +kernel, rfl, by decide +kernel, by decide +kernel⟩
theorem ok_is_sharp (T : Txt K mg) : Ok P w K mg base 7 (ga K "is_sharp") ["book", "lot", "saying"] (spIsSharp K) := by
  obtain ⟨fd, F⟩ := T.d_is_sharp
  obtain ⟨_, G_sharper, b_sharper, k_sharper⟩ := ok_sharper (P := P) (w := w) (base := base) T
  obtain ⟨_, G_verdicts_of, b_verdicts_of, k_verdicts_of⟩ := ok_verdicts_of (P := P) (w := w) (base := base) T
  obtain ⟨_, G_joined, b_joined, k_joined⟩ := ok_joined (P := P) (w := w) (base := base) T
  obtain ⟨_, G_Book_getitem, b_Book_getitem, k_Book_getitem⟩ := ok_Book_getitem (P := P) (w := w) (base := base) T
  refine ⟨_, F.ok sc_is_sharp (fun vs H Q E h => ?_) (fun cdv A outer s H vs Q E hr h => ?_), F.binds fun _ _ _ _ _ _ us hl => match us, hl with | [_, _, _], _ => rfl, F.kp⟩
  · obtain ⟨b, lt, a, n, xs, ps, lot, c, b', t, rfl, _⟩ := h
    rfl
  · obtain ⟨b, lt, a, n, xs, ps, lot, c, b', t, rfl, hB, hlt, hin, hl, hn, ha, hP, q⟩ := h
    refine ⟨_, (pss_one (ps_ret (pe_call G_sharper (hr.mono (by decide)) rfl T.g_sharper k_sharper b_sharper .nil pass0 (pa_cons (pe_call G_joined (hr.mono (by decide)) rfl T.g_joined k_joined b_joined .nil pass0 (pa_cons (pe_lc (own := [("number", 3)]) rfl sc_is_sharp.nd (pi_tup (pv 1)) (blkOk_by (own := [("number", 3)]) (N := ["book", "lot", "saying", "number"]) (sc := defScope (top 94)) (by decide +kernel)) (fun _ _ _ _ _ => (pg_name (i := 3) sc_is_sharp.nd rfl (Or.inl rfl))) (fun _ _ _ _ _ => pts_nil) (fun _ _ _ _ _ => (pe_ixOwn T.m_Book_getitem T.x_Book_getitem (raw0 G_Book_getitem b_Book_getitem) (hr.mono (by decide)) pass0 (pv 0) (pv 3)))) pa_nil)) (pa_cons (pe_call G_verdicts_of (hr.mono (by decide)) rfl T.g_verdicts_of k_verdicts_of b_verdicts_of .nil pass0 (pa_cons (pv 2) pa_nil)) pa_nil))))), ?_⟩
    obtain ⟨m, t', hb0, hm, ht, hs⟩ := id hB
    obtain ⟨dxb, fsb, hbe⟩ := hb0.ins
    walk_at "rd"
    refine ⟨⟨_, hlt⟩, fun D hD => lc_it (walk_tup (K := K) (a := lt) (xs := nV lot)) (fun i H' => Same H H' ∧ ∃ acc, H' D = some (.lst acc) ∧ SaysOf K H n acc (atL ps (lot.take i))) ⟨Same.new hD, [], upd_same, rfl, fun i v hv => by cases hv⟩ (fun i H' _ h => Same.tup h.1 hlt) ?_ ?_⟩
    · rintro i x H1 H2 hi ⟨e1, acc, h1, hso⟩ ⟨rfl, hx⟩
      obtain ⟨k, hk, rfl⟩ := get_map hx
      rw [nV_len] at hi
      have hkl := hin k (List.mem_of_getElem? hk)
      have hxk : k < xs.length := by rw [hs.1]; exact hkl
      obtain ⟨pp, aa, tt, hp1, hxa, hp3, hp4⟩ := hs.2 k _ (List.getElem?_eq_getElem hxk)
      walk_at "rd"
      refine ⟨b, dxb, fsb, rfl, e1 _ _ hbe, b, m, t', xs, k, .ref aa, rfl, hb0.mono e1, Same.tup e1 ht, by rw [List.getElem?_eq_getElem hxk, hxa], ?_⟩
      refine ⟨acc, h1, ?_, Same.own e1 hD, acc ++ [.ref aa], upd_same, ?_⟩
      · rw [hso.1]
        unfold atL
        rw [List.length_map, List.length_take]
        exact Nat.lt_of_le_of_lt (Nat.min_le_left _ _) (Nat.lt_of_lt_of_le (by omega : i < 60) (by decide))
      · rw [atL_take hk, List.getD_eq_getElem?_getD, hp1]
        exact hso.snoc hp3 hp4
    · rintro H1 ⟨e1, acc, h1, hso⟩
      rw [nV_len, List.take_length] at hso
      walk_at "rd"
      refine ⟨D, n, acc, atL ps lot, rfl, SqL.of h1, hso.mono e1, hn, fun H2 r e2 hv => ?_⟩
      walk_at "rd"
      refine ⟨a, n, c, b', t, true, rfl, ha.mono (e1.trans e2), hP, fun H3 r3 e3 hv3 => ?_⟩
      walk_at "rd"
      exact ⟨r, r3, _, _, _, _, rfl, hv.mono e3, hv3, q _ (e1.trans (e2.trans e3))⟩
def spWidest (K : PySem.W.Frag) : Sp := fun vs H Q _ => ∃ (n c b t : Nat) (bk a : Addr) (xs : List V) (ps : List UM.P), vs = [.ref bk, .ref a] ∧ BookAt K H bk n xs ps ∧ SayAt K H a c b t true ∧ SayP n c b t ∧ 0 < n ∧ n ≤ 16 ∧ xs.length ≤ 12 ∧
  ∀ H' l, Same H H' → UM.Done (UM.rowsU ps ++ [UM.rowF (c, b)]) n l → (UM.Sub b (UM.maskO (UM.openL l)) → ∀ r, H' r = some (.tup (nV (lotOf ps (UM.maskO (UM.openL l))))) → Q (.ref r) H') ∧ (¬ UM.Sub b (UM.maskO (UM.openL l)) → Q .non H')
theorem sc_widest_lot : FnScope ["book", "saying", "layers", "endless", "day", "layer", "number", "one"] ["book", "saying"] (defScope (top 95)) := ⟨rfl, rfl, rfl, by decide +kernel, rfl, by decide +kernel, by decide +kernel⟩
theorem ok_widest_lot (T : Txt K mg) : Ok P w K mg base 6 (ga K "widest_lot") ["book", "saying"] (spWidest K) := by
  obtain ⟨fd, F⟩ := T.d_widest_lot
  obtain ⟨_, G_check_all_usual, b_check_all_usual, k_check_all_usual⟩ := ok_check_all_usual (P := P) (w := w) (base := base) T
  obtain ⟨G_lifted_layers, k_lifted_layers⟩ := ok_lifted_layers (P := P) (w := w) (base := base) T
  obtain ⟨_, G_Saying_flipped, b_Saying_flipped, k_Saying_flipped⟩ := ok_Saying_flipped (P := P) (w := w) (base := base) T
  obtain ⟨_, G_set_of, b_set_of, k_set_of⟩ := ok_set_of (P := P) (w := w) (base := base) T
  obtain ⟨_, G_within, b_within, k_within⟩ := ok_within (P := P) (w := w) (base := base) T
  refine ⟨_, F.ok sc_widest_lot (fun vs H Q E h => ?_) (fun cdv A outer s H vs Q E hr h => ?_), F.binds fun _ _ _ _ _ _ us hl => match us, hl with | [_, _], _ => rfl, F.kp⟩
  · obtain ⟨n, c, b, t, bk, a, xs, ps, rfl, _⟩ := h
    rfl
  · obtain ⟨n, c, b, t, bk, a, xs, ps, rfl, hB, ha, hP, hn0, hn, hx, q⟩ := h
    refine ⟨_, (pss_cons (ps_expr (pe_call G_check_all_usual (hr.mono (by decide)) rfl T.g_check_all_usual k_check_all_usual b_check_all_usual .nil pass0 (pa_cons (pv 0) (pa_cons (pv 1) pa_nil))))
      (pss_cons (ps_set (i := 2) sc_widest_lot.nd rfl (Or.inl rfl) (pe_callF G_lifted_layers (hr.mono (by decide)) rfl T.g_lifted_layers k_lifted_layers pass0 (pa_cons (pv 0) (pa_cons (pe_meth0 (pv 1) T.c_Saying T.m_Saying_flipped G_Saying_flipped (hr.mono (by decide)) b_Saying_flipped .nil pass0) pa_nil))))
      (pss_cons (ps_set (i := 3) sc_widest_lot.nd rfl (Or.inr rfl) (pe_call G_set_of (hr.mono (by decide)) rfl T.g_set_of k_set_of b_set_of .nil pass0 (pa_cons (pe_lc (own := [("day", 4), ("layer", 5)]) rfl sc_widest_lot.nd (pi_enumT (by rfl) T.b_enumerate (pa_cons (pv 2) pa_nil)) (blkOk_by (own := [("day", 4), ("layer", 5)]) (N := ["book", "saying", "layers", "endless", "day", "layer", "number", "one"]) (sc := defScope (top 95)) (by decide +kernel)) (fun _ _ _ _ _ => (kgtup (K := K) (n := 2) rfl (pgs_cons (pg_name (i := 4) sc_widest_lot.nd rfl (Or.inl rfl)) (pgs_cons (pg_name (i := 5) sc_widest_lot.nd rfl (Or.inl rfl)) pgs_nil)) rfl)) (fun _ _ _ _ _ => pts_one (pt_cmpR op_isN (pv 5) pe_non (nomark _))) (fun _ _ _ _ _ => (pv 4))) pa_nil)))
      (pss_cons (ps_if (pt_not (pt_val (pe_call G_within (hr.mono (by decide)) rfl T.g_within k_within b_within .nil pass0 (pa_cons (pe_fld (pv 1) rfl) (pa_cons (pv 3) pa_nil))))) (pss_one (ps_ret pe_non)) pss_nil) (pss_one (ps_ret (pe_callTy call_tuple_of (by rfl) T.b_tuple (by decide +kernel) (pa_cons (pe_lc (own := [("number", 6), ("one", 7)]) rfl sc_widest_lot.nd (pi_enumT (by rfl) T.b_enumerate (pa_cons (pe_fld (pv 0) rfl) pa_nil)) (blkOk_by (own := [("number", 6), ("one", 7)]) (N := ["book", "saying", "layers", "endless", "day", "layer", "number", "one"]) (sc := defScope (top 95)) (by decide +kernel)) (fun _ _ _ _ _ => (kgtup (K := K) (n := 2) rfl (pgs_cons (pg_name (i := 6) sc_widest_lot.nd rfl (Or.inl rfl)) (pgs_cons (pg_name (i := 7) sc_widest_lot.nd rfl (Or.inl rfl)) pgs_nil)) rfl)) (fun _ _ _ _ _ => pts_one (pt_val (pe_call G_within (hr.mono (by decide)) rfl T.g_within k_within b_within .nil pass0 (pa_cons (kfld (K := K) (pv 7) rfl rfl) (pa_cons (pv 3) pa_nil))))) (fun _ _ _ _ _ => (pv 6))) pa_nil)))))))), ?_⟩
    obtain ⟨m, t', hb0, hm, ht, hs⟩ := id hB
    walk_at "rd"
    refine ⟨n, c, b, t, bk, a, xs, ps, rfl, hB, ha, hP, fun H1 e1 => ?_⟩
    walk_at "rd"
    obtain ⟨dx, fs, hpe, hlk⟩ := (ha.mono e1).m_flipped
    refine ⟨a, dx, fs, rfl, hpe, hlk, ?_⟩
    walk_at "rd"
    refine ⟨a, n, c, b, t, true, rfl, ha.mono e1, hP, fun H2 r2 e2 h2 => ?_⟩
    have e12 := e1.trans e2
    walk_at "rd"
    refine ⟨bk, r2, n, xs, ps, b, c, b, true, rfl, hB.mono e12, h2, hP.flip, hn0, hn, hx, fun H3 r l e3 hr0 hr3 hd => ?_⟩
    have e13 := e12.trans e3
    have hll : l.length = n := hd.len
    walk_at "rd"
    refine ⟨r, _, rfl, SqT.of hr3, fun D hD => lc_it (walk_enumT (K := K) (a := r) (xs := l.map layV)) (fun i H' => Same H3 H' ∧ H' D = some (.lst ((UM.openL (l.take i)).map fun (d : Nat) => V.int (d : Int)))) ⟨Same.new hD, upd_same⟩ (fun i H' _ h => SqT.of (h.1 _ _ hr3)) ?_ ?_⟩
    · rintro i x H4 H5 hi ⟨e4, h4⟩ ⟨Tp, y1, y2, rfl, hT, rfl, hy1, hy2⟩
      cases hy1
      obtain ⟨z, hz, rfl⟩ := get_map hy2
      rw [List.length_map, hll] at hi
      have s2 : Same H3 (upd H4 Tp (.tup [.int (i : Nat), layV z])) := Same.push e4 hT
      have nD : D ≠ Tp := ne_of_none h4 hT
      have ot := openL_take l hz
      walk_at "rd"
      cases z with
      | none =>
        walk_at "rd"
        refine ⟨_, by rw [upd_ne nD]; exact h4, ?_, Same.own s2 hD, ?_⟩
        · rw [List.length_map]
          exact Nat.lt_of_le_of_lt (UM.fm_len_take _ l i) (Nat.lt_of_lt_of_le (by omega : i < 16) (by decide))
        · rw [upd_same, ot, if_pos rfl, List.map_append]
          rfl
      | some v =>
        walk_at "rd"
        refine ⟨s2, ?_⟩
        rw [upd_ne nD, h4, ot, if_neg (by simp), List.append_nil]
    · rintro H4 ⟨e4, h4⟩
      rw [List.length_map, List.take_length] at h4
      walk_at "rd"
      refine ⟨D, UM.openL l, rfl, SqL.of h4, fun d hd2 => by have := (UM.mem_openL.mp hd2).1; omega, ?_⟩
      have em : List.foldl (fun (m d : Nat) => m ||| 2 ^ d) 0 (UM.openL l) = UM.maskO (UM.openL l) := rfl
      rw [em]
      have e14 := e13.trans e4
      have ha4 := ha.mono e14
      have g2 := ha4.f_broken T
      have hb4 := hb0.mono e14
      have f1 := hb4.f_sayings T
      have ht4 := Same.tup e14 ht
      have hps : xs.length = ps.length := hs.1
      walk_at "rd"
      by_cases hE : UM.Sub b (UM.maskO (UM.openL l))
      · rw [decide_eq_true hE]
        walk_at "rd"
        refine ⟨t', xs, rfl, ht4, fun D2 hD2 => ?_⟩
        refine lc_it (walk_enumT (K := K) (a := t') (xs := xs)) (fun i H' => Same H4 H' ∧ H' D2 = some (.lst (nV (lotOf (ps.take i) (UM.maskO (UM.openL l)))))) ⟨Same.new hD2, upd_same⟩ (fun i H' _ h => Same.tup h.1 ht4) ?_ ?_
        · rintro i x H5 H6 hi ⟨e5, h5⟩ ⟨Tp, y1, y2, rfl, hT, rfl, hy1, hy2⟩
          cases hy1
          obtain ⟨pp, aa, tt, hp1, rfl, hp3, hp4⟩ := hs.2 i y2 hy2
          have e6 : Same H4 (upd H5 Tp (.tup [.int (i : Nat), .ref aa])) := Same.push e5 hT
          have nD : D2 ≠ Tp := ne_of_none h5 hT
          have g3 := (hp3.mono (e14.trans e6)).f_confirm T
          have lt := lotOf_take (E := UM.maskO (UM.openL l)) hp1
          walk_at "rd"
          by_cases hc : UM.Sub pp.1 (UM.maskO (UM.openL l))
          · rw [decide_eq_true hc]
            rw [if_pos hc] at lt
            walk_at "rd"
            refine ⟨_, by rw [upd_ne nD]; exact h5, ?_, Same.own e6 hD2, ?_⟩
            · rw [nV_len]
              exact Nat.lt_of_le_of_lt (UM.fm_len_take _ ps i) (Nat.lt_of_lt_of_le (by omega : i < 12) (by decide))
            · rw [upd_same, lt]
              unfold nV
              rw [List.map_append]
              rfl
          · rw [decide_eq_false hc]
            rw [if_neg hc, List.append_nil] at lt
            walk_at "rd"
            refine ⟨e6, ?_⟩
            rw [upd_ne nD, lt]
            exact h5
        · rintro H5 ⟨e5, h5⟩
          rw [hps, List.take_length] at h5
          walk_at "rd"
          refine ⟨D2, _, rfl, .inl ⟨SqL.of h5, fun tt htt => ?_⟩⟩
          exact (q _ l (Same.push (e14.trans e5) htt) hd).1 hE tt upd_same
      · rw [decide_eq_false hE]
        walk_at "rd"
        exact (q _ l e14 hd).2 hE
end
end U
set_option maxHeartbeats 4100000
namespace U
open PySem L2 He
local macro_rules | `(tactic| walk_at "same") => `(tactic| first | (with_reducible assumption) | exact Same.refl _ | (refine Same.push ?_ (by assumption); walk_at "same") | (refine Same.own ?_ (by assumption); walk_at "same") | (refine Same.trans ?_ (by with_reducible assumption); walk_at "same"))
local macro_rules | `(tactic| walk_at "get") => `(tactic| first | assumption | exact upd_same | (refine get_push (by assumption) ?_; walk_at "get") | (refine get_ne (by assumption) ?_; walk_at "get") | (refine get_ne' (by assumption) ?_; walk_at "get") | (refine Same.get ?_ (by assumption); walk_at "same"))
local macro_rules | `(tactic| walk_at "has") => `(tactic| first | assumption | (refine Has.mono ?_ (by assumption); walk_at "same"))
local macro_rules | `(tactic| walk_at "sql") => `(tactic| first | assumption | exact SqL.of upd_same | exact SqL.of (by assumption) | (refine Same.seq ?_ (by assumption); walk_at "same") | (refine SqL.of ?_; walk_at "get"))
local macro_rules | `(tactic| walk_at "sqt") => `(tactic| first | assumption | exact SqT.of upd_same | exact SqT.of (by assumption) | (refine Same.tup ?_ (by assumption); walk_at "same") | (refine SqT.of ?_; walk_at "get"))
local macro_rules | `(tactic| walk_at "r1") => `(tactic| first | ((with_reducible refine ite_tt ?_ ?_); (focus exact rfl)) | ((with_reducible refine ite_ff ?_ ?_); (focus exact rfl)) | refine ⟨_, rfl, ?_⟩ | refine ⟨_, _, rfl, rfl, ?_⟩ | (refine ⟨rfl, ?_⟩) | refine ⟨(Int.natCast_nonneg _ : (0 : Int) ≤ _), ?_⟩ | refine ⟨_, _, rfl, ?_⟩ | refine ⟨_, _, _, rfl, ?_⟩ | (refine Has.ans (by walk_at "has") ?_) | refine ⟨_, _, _, _, rfl, rfl, (by walk_at "sql"), rfl, ?_⟩ | refine ⟨_, _, rfl, .inl (by walk_at "sql"), ?_⟩ | refine ⟨_, _, rfl, .inr (by walk_at "sqt"), ?_⟩ | refine ⟨_, _, _, _, rfl, rfl, (by walk_at "sqt"), rfl, ?_⟩ | refine ⟨_, _, rfl, (by walk_at "sqt"), rfl, ?_⟩ | refine ⟨_, _, _, _, rfl, (by walk_at "get"), (by assumption), (by assumption), (by walk_at "len"), ?_⟩ | refine ⟨_, _, _, _, _, rfl, (by walk_at "get"), (by assumption), (by assumption), (by walk_at "lk"), ?_⟩)
local macro_rules | `(tactic| walk_at "rd") => `(tactic| repeat walk_at "r1")
local macro_rules | `(tactic| walk_at "lk") => `(tactic| first | (with_reducible exact lk_hit) | (refine lk_miss (by decide +kernel) ?_; walk_at "lk") | rfl)
local macro_rules | `(tactic| walk_at "len") => `(tactic| (refine Nat.lt_of_le_of_lt (m := 60) ?_ (by decide); (repeat (refine len_put ?_)); exact Nat.zero_le _))
local macro_rules | `(tactic| walk_at "len9") => `(tactic| (refine Nat.le_trans (m := 60) ?_ (by decide); (repeat (refine len_put ?_)); exact Nat.zero_le _))
local macro_rules | `(tactic| walk_at "own") => `(tactic| first | assumption | (refine Same.own ?_ (by assumption); walk_at "own"))

section
variable {P : Program} {w : World} {base : Heap}
variable {K : PySem.W.Frag} {mg : Str → Option Value}
/-- a lot that does not ascend within 0 .. m - 1 -/
def lotBad (m : Nat) : Int → List Int → Bool
  | _, [] => false
  | last, x :: r => if last < x ∧ x < (m : Int) then lotBad m x r else true
def wordB (ps : List UM.P) (s : UM.P) (lot : List Int) : V :=
  if lotBad ps.length (-1) lot = true then .str "lot" else if UM.sharp (UM.joinP (atL ps (lot.map Int.toNat))) s = true then .non else .str "sharp"
def wordE (n : Nat) (ps : List UM.P) (s : UM.P) (ns : List Nat) : V :=
  if ns.length = n then (if UM.above (UM.dbt ns s) (UM.sumF ns ps) = true then .non else .str "sum") else .str "count"
/-- an answer that is looked at -/
def AnsAt (K : PySem.W.Frag) (H : Hp) (r : Addr) (n : Nat) (ps : List UM.P) (s : UM.P) (z : V) : Prop :=
  (∃ q ns, ExcAt0 K H r q ∧ WeiAt K H q ns ∧ UM.SmallW ns ∧ z = wordE n ps s ns) ∨ (∃ (t : Addr) (lot : List Int), BoundAt0 K H r t ∧ SqT K H t (lot.map V.int) ∧ lot.length ≤ 60 ∧ z = wordB ps s lot)
theorem lotBad_cons {m : Nat} {last x : Int} {r : List Int} : lotBad m last (x :: r) = if last < x ∧ x < (m : Int) then lotBad m x r else true := rfl
theorem lotBad_in {m : Nat} : ∀ (lot : List Int) (last : Int), -1 ≤ last → lotBad m last lot = false → ∀ x ∈ lot, 0 ≤ x ∧ x < (m : Int)
  | [], _, _, _, x, hx => by cases hx
  | y :: r, last, hl, h, x, hx => by
    unfold lotBad at h
    by_cases c : last < y ∧ y < (m : Int)
    · rw [if_pos c] at h
      rcases (List.mem_cons.mp hx) with rfl | hx
      · exact ⟨by omega, c.2⟩
      · exact lotBad_in r y (by omega) h x hx
    · rw [if_neg c] at h
      cases h
def spFault (K : PySem.W.Frag) : Sp := fun vs H Q _ => ∃ (b a r : Addr) (n : Nat) (xs : List V) (ps : List UM.P) (c b' t : Nat) (z : V), vs = [.ref b, .ref a, .ref r] ∧ BookAt K H b n xs ps ∧ SayAt K H a c b' t true ∧ SayP n c b' t ∧ Four n ∧ xs.length ≤ 12 ∧ AnsAt K H r n ps (c, b') z ∧
  ∀ H', Same H H' → Q z H'
theorem sc_sum_fault : FnScope ["book", "saying", "answer", "above", "last", "number", "verdicts"] ["book", "saying", "answer"] (defScope (top 75)) := ⟨rfl, rfl, rfl, by decide +kernel, rfl, by decide +kernel, by decide +kernel⟩
theorem ok_sum_fault (T : Txt K mg) : Ok P w K mg base 7 (ga K "sum_fault") ["book", "saying", "answer"] (spFault K) := by
  obtain ⟨fd, F⟩ := T.d_sum_fault
  obtain ⟨_, G_check_asked, b_check_asked, k_check_asked⟩ := ok_check_asked (P := P) (w := w) (base := base) T
  obtain ⟨_, G_Weights_len, b_Weights_len, k_Weights_len⟩ := ok_Weights_len (P := P) (w := w) (base := base) T
  obtain ⟨_, G_compare_ratios, b_compare_ratios, k_compare_ratios⟩ := ok_compare_ratios (P := P) (w := w) (base := base) T
  obtain ⟨_, G_doubt_sum, b_doubt_sum, k_doubt_sum⟩ := ok_doubt_sum (P := P) (w := w) (base := base) T
  obtain ⟨_, G_plain_doubt, b_plain_doubt, k_plain_doubt⟩ := ok_plain_doubt (P := P) (w := w) (base := base) T
  obtain ⟨_, G_is_whole, b_is_whole, k_is_whole⟩ := ok_is_whole (P := P) (w := w) (base := base) T
  obtain ⟨_, G_Book_len, b_Book_len, k_Book_len⟩ := ok_Book_len (P := P) (w := w) (base := base) T
  obtain ⟨_, G_joined, b_joined, k_joined⟩ := ok_joined (P := P) (w := w) (base := base) T
  obtain ⟨_, G_Book_getitem, b_Book_getitem, k_Book_getitem⟩ := ok_Book_getitem (P := P) (w := w) (base := base) T
  obtain ⟨_, G_sharper, b_sharper, k_sharper⟩ := ok_sharper (P := P) (w := w) (base := base) T
  obtain ⟨_, G_verdicts_of, b_verdicts_of, k_verdicts_of⟩ := ok_verdicts_of (P := P) (w := w) (base := base) T
  refine ⟨_, F.ok sc_sum_fault (fun vs H Q E h => ?_) (fun cdv A outer s H vs Q E hr h => ?_), F.binds fun _ _ _ _ _ _ us hl => match us, hl with | [_, _, _], _ => rfl, F.kp⟩
  · obtain ⟨b, a, r, n, xs, ps, c, b', t, z, rfl, _⟩ := h
    rfl
  · obtain ⟨b, a, r, n, xs, ps, c, b', t, z, rfl, hB, ha, hP, hn4, hx, hA, q⟩ := h
    refine ⟨_, (pss_cons (ps_expr (pe_call G_check_asked (hr.mono (by decide)) rfl T.g_check_asked k_check_asked b_check_asked .nil pass0 (pa_cons (pv 0) (pa_cons (pv 1) pa_nil))))
      (pss_cons (ps_if (pt_val (pe_callB call_isi (by rfl) T.b_isinstance (by decide +kernel) (pa_cons (pv 2) (pa_cons (pe_glob (v := .ref (ga K "Exceeds")) rfl T.g_Exceeds rfl) pa_nil)))) (pss_cons (ps_if (pt_cmpR op_ne (pe_callB (call_lenOwn T.m_Weights_len (raw0 G_Weights_len b_Weights_len) (hr.mono (by decide)) pass0) (by rfl) T.b_len (by decide +kernel) (pa_cons (pe_fld (pv 2) rfl) pa_nil)) (pe_fld (pe_fld (pv 0) rfl) rfl) (nomark _)) (pss_one (ps_ret pe_str)) pss_nil)
      (pss_cons (ps_set (i := 3) sc_sum_fault.nd rfl (Or.inl rfl) (pe_call G_compare_ratios (hr.mono (by decide)) rfl T.g_compare_ratios k_compare_ratios b_compare_ratios .nil pass0 (pa_cons (pe_call G_plain_doubt (hr.mono (by decide)) rfl T.g_plain_doubt k_plain_doubt b_plain_doubt .nil pass0 (pa_cons (pe_fld (pv 2) rfl) (pa_cons (pv 1) pa_nil))) (pa_cons (pe_call G_doubt_sum (hr.mono (by decide)) rfl T.g_doubt_sum k_doubt_sum b_doubt_sum .nil pass0 (pa_cons (pe_fld (pv 2) rfl) (pa_cons (pv 0) pa_nil))) pa_nil)))) (pss_one (ps_ret (pe_ifExp (pt_cmpR op_gt (pv 3) pe_int (nomark _)) pe_non pe_str))))) pss_nil)
      (pss_cons (ps_set (i := 4) sc_sum_fault.nd rfl (Or.inl rfl) (pe_un un_neg pe_int))
      (pss_cons (ps_for PassesOwn.never rfl (pi_tup (pe_fld (pv 2) rfl)) (pg_name (i := 5) sc_sum_fault.nd rfl (Or.inl rfl)) (pss_cons (ps_if (pt_not (pt_val (pe_call G_is_whole (hr.mono (by decide)) rfl T.g_is_whole k_is_whole b_is_whole .nil pass0 (pa_cons (pv 5) (pa_cons (pe_op op_add (pv 4) pe_int) (pa_cons (pe_op op_sub (pe_callB (call_lenOwn T.m_Book_len (raw0 G_Book_len b_Book_len) (hr.mono (by decide)) pass0) (by rfl) T.b_len (by decide +kernel) (pa_cons (pv 0) pa_nil)) pe_int) pa_nil)))))) (pss_one (ps_ret pe_str)) pss_nil) (pss_one (ps_set (i := 4) sc_sum_fault.nd rfl (Or.inl rfl) (pv 5)))))
      (pss_cons (ps_set (i := 6) sc_sum_fault.nd rfl (Or.inl rfl) (pe_call G_joined (hr.mono (by decide)) rfl T.g_joined k_joined b_joined .nil pass0 (pa_cons (pe_lc (own := [("number", 5)]) rfl sc_sum_fault.nd (pi_tup (pe_fld (pv 2) rfl)) (blkOk_by (own := [("number", 5)]) (N := ["book", "saying", "answer", "above", "last", "number", "verdicts"]) (sc := defScope (top 75)) (by decide +kernel)) (fun _ _ _ _ _ => (pg_name (i := 5) sc_sum_fault.nd rfl (Or.inl rfl))) (fun _ _ _ _ _ => pts_nil) (fun _ _ _ _ _ => (pe_ixOwn T.m_Book_getitem T.x_Book_getitem (raw0 G_Book_getitem b_Book_getitem) (hr.mono (by decide)) pass0 (pv 0) (pv 5)))) pa_nil))) (pss_one (ps_ret (pe_ifExp (pt_val (pe_call G_sharper (hr.mono (by decide)) rfl T.g_sharper k_sharper b_sharper .nil pass0 (pa_cons (pv 6) (pa_cons (pe_call G_verdicts_of (hr.mono (by decide)) rfl T.g_verdicts_of k_verdicts_of b_verdicts_of .nil pass0 (pa_cons (pv 1) pa_nil)) pa_nil)))) pe_non pe_str)))))))), ?_⟩
    obtain ⟨m, t', hb0, hm, ht, hs⟩ := id hB
    obtain ⟨dxb, fsb, hbe⟩ := hb0.ins
    have hn : n ≤ 16 := hP.n16
    walk_at "rd"
    refine ⟨n, c, b', t, b, a, xs, ps, rfl, hB, ha, hP, fun H1 e1 => ?_⟩
    walk_at "rd"
    rcases hA with ⟨qq, ns, hex, hW, hSm, rfl⟩ | ⟨tt, lot, hbd, htt, hl60, rfl⟩
    · have hex1 := hex.mono e1
      have hW1 := hW.mono e1
      have hB1 := hB.mono e1
      have g1 := hex1.f_weights T
      obtain ⟨tw, hw0, htw⟩ := id hW1
      obtain ⟨dxw, fsw, hwe⟩ := hw0.ins
      have f1 := (hb0.mono e1).f_marks T
      have f2 := (hm.mono e1).f_days T
      refine ⟨_, _, _, _, true, rfl, .own _, hex1.ty T, T.i_Exceeds_Exceeds, ?_⟩
      walk_at "rd"
      refine ⟨qq, dxw, fsw, rfl, hwe, qq, ns, rfl, hW1, _, rfl, Int.natCast_nonneg _, by have := hSm.1; omega, ?_⟩
      walk_at "rd"
      by_cases hnn : ns.length = n
      · have z1 : decide (V.int (ns.length : Int) = V.int (n : Int)) = true := decide_eq_true (by rw [hnn])
        simp only [z1]
        walk_at "rd"
        refine ⟨qq, a, ns, c, b', t, true, rfl, hW1, hSm, ha.mono e1, by rw [hnn]; exact hP, fun H2 r2 e2 h2 => ?_⟩
        walk_at "rd"
        refine ⟨qq, b, ns, xs, ps, rfl, hW1.mono e2, hSm, by rw [hnn]; exact hB1.mono e2, hx, fun H3 r3 e3 h3 => ?_⟩
        have hd1 := hSm.dbt1 (c, b')
        have hd2 := hSm.dbt2 (c, b')
        have hsm := hSm.sum (ps := ps) (by rw [← hs.1]; exact hx)
        walk_at "rd"
        refine ⟨r2, r3, _, _, _, _, rfl, SqT.of (e3 _ _ h2), SqT.of h3, ⟨Nat.lt_trans hd1 (UM.p2lt (by decide)), Nat.lt_trans hd2 (UM.p2lt (by decide)), Nat.lt_trans hsm.1 (UM.p2lt (by decide)), Nat.lt_trans hsm.2 (UM.p2lt (by decide))⟩, ?_⟩
        intro z hz
        walk_at "rd"
        unfold wordE at q
        rw [if_pos hnn] at q
        have hz2 : 0 < z ↔ UM.above (UM.dbt ns (c, b')) (UM.sumF ns ps) = true := hz
        by_cases hp : 0 < z
        · rw [decide_eq_true hp]
          rw [if_pos (hz2.mp hp)] at q
          walk_at "rd"
          exact q H3 (e1.trans (e2.trans e3))
        · rw [decide_eq_false hp]
          rw [if_neg (fun y => hp (hz2.mpr y))] at q
          walk_at "rd"
          exact q H3 (e1.trans (e2.trans e3))
      · have z1 : decide (V.int (ns.length : Int) = V.int (n : Int)) = false := vint_ne (by omega)
        simp only [z1]
        walk_at "rd"
        unfold wordE at q
        rw [if_neg hnn] at q
        exact q H1 e1
    · have hbd1 := hbd.mono e1
      have g1 := hbd1.f_lot T
      refine ⟨_, _, _, _, false, rfl, .own _, hbd1.ty T, T.i_Bounded_Exceeds, ?_⟩
      walk_at "rd"
      have htt1 := Same.tup e1 htt
      have hps : xs.length = ps.length := hs.1
      refine ⟨⟨_, htt1⟩, for_it (walk_tup (K := K) (a := tt) (xs := lot.map V.int)) (fun i σ H' => ∃ (last : Int) (v5 : Option V), σ = [some (.ref b), some (.ref a), some (.ref r), none, some (.int last), v5, none] ∧ Same H1 H' ∧ -1 ≤ last ∧ lotBad ps.length (-1) lot = lotBad ps.length last (lot.drop i)) ⟨-1, none, rfl, Same.refl _, Int.le_refl _, rfl⟩ (fun i σ H' _ h => by obtain ⟨_, _, _, e, _⟩ := h; exact Same.tup e htt1) ?_ ?_⟩
      · rintro i x σ H2 H3 hi ⟨last, v5, rfl, e2, hl1, hbad⟩ ⟨rfl, hx1⟩
        obtain ⟨y, hy, rfl⟩ := get_map hx1
        have hdr : lot.drop i = y :: lot.drop (i + 1) := by
          obtain ⟨hi2, e⟩ := List.getElem?_eq_some_iff.mp hy
          rw [List.drop_eq_getElem_cons hi2, e]
        rw [hdr, lotBad_cons] at hbad
        have hb3 := (hb0.mono e1).mono e2
        walk_at "rd"
        refine ⟨b, dxb, fsb, rfl, e2 _ _ (e1 _ _ hbe), b, m, t', xs, rfl, hb3, Same.tup (e1.trans e2) ht, _, rfl, Int.natCast_nonneg _, by omega, ?_⟩
        walk_at "rd"
        by_cases hc : last < y ∧ y < (ps.length : Int)
        · rw [if_pos hc] at hbad
          have z1 : (decide (last + 1 ≤ y) && decide (y ≤ (xs.length : Int) - 1)) = true := by simp; omega
          simp only [z1]
          walk_at "rd"
          exact ⟨e2, by omega, hbad⟩
        · rw [if_neg hc] at hbad
          have z1 : (decide (last + 1 ≤ y) && decide (y ≤ (xs.length : Int) - 1)) = false := by
            cases h : (decide (last + 1 ≤ y) && decide (y ≤ (xs.length : Int) - 1)) with
            | false => rfl
            | true => simp at h; omega
          simp only [z1]
          walk_at "rd"
          unfold wordB at q
          rw [if_pos hbad] at q
          exact q _ (e1.trans e2)
      · rintro σ H2 ⟨last, v5, rfl, e2, hl1, hbad⟩
        rw [List.length_map, List.drop_length] at hbad
        have hbad2 : lotBad ps.length (-1) lot = false := hbad
        have hin := lotBad_in lot (-1) (Int.le_refl _) hbad2
        have e12 := e1.trans e2
        have htt2 := Same.tup e2 htt1
        have g2 := g1.mono e2
        walk_at "rd"
        refine ⟨⟨_, htt2⟩, fun D hD => lc_it (walk_tup (K := K) (a := tt) (xs := lot.map V.int)) (fun i H' => Same H2 H' ∧ ∃ acc, H' D = some (.lst acc) ∧ SaysOf K H n acc (atL ps ((lot.map Int.toNat).take i))) ⟨Same.new hD, [], upd_same, rfl, fun i v hv => by cases hv⟩ (fun i H' _ h => Same.tup h.1 htt2) ?_ ?_⟩
        · rintro i x H3 H4 hi ⟨e3, acc, h3, hso⟩ ⟨rfl, hx1⟩
          obtain ⟨y, hy, rfl⟩ := get_map hx1
          rw [List.length_map] at hi
          obtain ⟨y0, yl⟩ := hin y (List.mem_of_getElem? hy)
          have hxk : y.toNat < xs.length := by omega
          obtain ⟨pp, aa, tt2, hp1, hxa, hp3, hp4⟩ := hs.2 y.toNat _ (List.getElem?_eq_getElem hxk)
          have hk : (lot.map Int.toNat)[i]? = some y.toNat := by rw [List.getElem?_map, hy]; rfl
          have e13 := e12.trans e3
          walk_at "rd"
          refine ⟨b, dxb, fsb, rfl, e13 _ _ hbe, b, m, t', xs, y.toNat, .ref aa, ?_, hb0.mono e13, Same.tup e13 ht, by rw [List.getElem?_eq_getElem hxk, hxa], ?_⟩
          · rw [Int.toNat_of_nonneg y0]
          refine ⟨acc, h3, ?_, Same.own e3 hD, acc ++ [.ref aa], upd_same, ?_⟩
          · rw [hso.1]
            unfold atL
            rw [List.length_map, List.length_take]
            exact Nat.lt_of_le_of_lt (Nat.min_le_left _ _) (Nat.lt_of_lt_of_le (by omega : i < 60) (by decide))
          · rw [atL_take hk, List.getD_eq_getElem?_getD, hp1]
            exact hso.snoc hp3 hp4
        · rintro H3 ⟨e3, acc, h3, hso⟩
          rw [List.length_map, ← List.length_map (f := Int.toNat), List.take_length] at hso
          have e13 := e12.trans e3
          walk_at "rd"
          refine ⟨D, n, acc, _, rfl, SqL.of h3, hso.mono e13, hn, fun H4 r4 e4 hv => ?_⟩
          walk_at "rd"
          refine ⟨a, n, c, b', t, true, rfl, ha.mono (e13.trans e4), hP, fun H5 r5 e5 hv5 => ?_⟩
          walk_at "rd"
          refine ⟨r4, r5, _, _, _, _, rfl, hv.mono e5, hv5, ?_⟩
          unfold wordB at q
          rw [hbad2, if_neg Bool.false_ne_true] at q
          cases hsh : UM.sharp (UM.joinP (atL ps (lot.map Int.toNat))) (c, b') with
          | true =>
            rw [hsh] at q
            walk_at "rd"
            exact q _ (e13.trans (e4.trans e5))
          | false =>
            rw [hsh] at q
            walk_at "rd"
            exact q _ (e13.trans (e4.trans e5))
end
end U
set_option maxHeartbeats 4100000
namespace U
open PySem L2 He
local macro_rules | `(tactic| walk_at "same") => `(tactic| first | (with_reducible assumption) | exact Same.refl _ | (refine Same.push ?_ (by assumption); walk_at "same") | (refine Same.own ?_ (by assumption); walk_at "same") | (refine Same.trans ?_ (by with_reducible assumption); walk_at "same"))
local macro_rules | `(tactic| walk_at "get") => `(tactic| first | assumption | exact upd_same | (refine get_push (by assumption) ?_; walk_at "get") | (refine get_ne (by assumption) ?_; walk_at "get") | (refine get_ne' (by assumption) ?_; walk_at "get") | (refine Same.get ?_ (by assumption); walk_at "same"))
local macro_rules | `(tactic| walk_at "has") => `(tactic| first | assumption | (refine Has.mono ?_ (by assumption); walk_at "same"))
local macro_rules | `(tactic| walk_at "sql") => `(tactic| first | assumption | exact SqL.of upd_same | exact SqL.of (by assumption) | (refine Same.seq ?_ (by assumption); walk_at "same") | (refine SqL.of ?_; walk_at "get"))
local macro_rules | `(tactic| walk_at "sqt") => `(tactic| first | assumption | exact SqT.of upd_same | exact SqT.of (by assumption) | (refine Same.tup ?_ (by assumption); walk_at "same") | (refine SqT.of ?_; walk_at "get"))
local macro_rules | `(tactic| walk_at "r1") => `(tactic| first | ((with_reducible refine ite_tt ?_ ?_); (focus exact rfl)) | ((with_reducible refine ite_ff ?_ ?_); (focus exact rfl)) | refine ⟨_, rfl, ?_⟩ | refine ⟨_, _, rfl, rfl, ?_⟩ | (refine ⟨rfl, ?_⟩) | refine ⟨(Int.natCast_nonneg _ : (0 : Int) ≤ _), ?_⟩ | refine ⟨_, _, rfl, ?_⟩ | refine ⟨_, _, _, rfl, ?_⟩ | (refine Has.ans (by walk_at "has") ?_) | refine ⟨_, _, _, _, rfl, rfl, (by walk_at "sql"), rfl, ?_⟩ | refine ⟨_, _, rfl, .inl (by walk_at "sql"), ?_⟩ | refine ⟨_, _, rfl, .inr (by walk_at "sqt"), ?_⟩ | refine ⟨_, _, _, _, rfl, rfl, (by walk_at "sqt"), rfl, ?_⟩ | refine ⟨_, _, rfl, (by walk_at "sqt"), rfl, ?_⟩ | refine ⟨_, _, _, _, rfl, (by walk_at "get"), (by assumption), (by assumption), (by walk_at "len"), ?_⟩ | refine ⟨_, _, _, _, _, rfl, (by walk_at "get"), (by assumption), (by assumption), (by walk_at "lk"), ?_⟩)
local macro_rules | `(tactic| walk_at "rd") => `(tactic| repeat walk_at "r1")
local macro_rules | `(tactic| walk_at "lk") => `(tactic| first | (with_reducible exact lk_hit) | (refine lk_miss (by decide +kernel) ?_; walk_at "lk") | rfl)
local macro_rules | `(tactic| walk_at "len") => `(tactic| (refine Nat.lt_of_le_of_lt (m := 60) ?_ (by decide); (repeat (refine len_put ?_)); exact Nat.zero_le _))
local macro_rules | `(tactic| walk_at "len9") => `(tactic| (refine Nat.le_trans (m := 60) ?_ (by decide); (repeat (refine len_put ?_)); exact Nat.zero_le _))
local macro_rules | `(tactic| walk_at "own") => `(tactic| first | assumption | (refine Same.own ?_ (by assumption); walk_at "own"))

section
variable {P : Program} {w : World} {base : Heap}
variable {K : PySem.W.Frag} {mg : Str → Option Value}
theorem lot_asc (ps : List UM.P) (E : Nat) : (lotOf ps E).Pairwise (fun a b => a < b) := (UM.fmI_asc (fun i x y h => by split at h <;> cases h; rfl) ps 0).1
theorem lot_mem {ps : List UM.P} {E i : Nat} : i ∈ lotOf ps E ↔ ∃ p, ps[i]? = some p ∧ UM.Sub p.1 E := by
  unfold lotOf
  rw [UM.mem_fm]
  constructor
  · rintro ⟨k, x, h1, h2⟩
    split at h2
    · rename_i c
      cases h2
      exact ⟨x, h1, c⟩
    · cases h2
  · rintro ⟨p, h1, h2⟩
    exact ⟨i, p, h1, if_pos h2⟩
theorem lot_lt {ps : List UM.P} {E i : Nat} (h : i ∈ lotOf ps E) : i < ps.length := by
  obtain ⟨p, h1, _⟩ := lot_mem.mp h
  exact (List.getElem?_eq_some_iff.mp h1).1
theorem atL_mem {ps : List UM.P} {E : Nat} (p : UM.P) : p ∈ atL ps (lotOf ps E) ↔ p ∈ ps ∧ UM.Sub p.1 E := by
  unfold atL
  rw [List.mem_map]
  constructor
  · rintro ⟨i, hi, rfl⟩
    obtain ⟨p, h1, h2⟩ := lot_mem.mp hi
    rw [List.getD_eq_getElem?_getD, h1]
    exact ⟨List.mem_of_getElem? h1, h2⟩
  · rintro ⟨h1, h2⟩
    obtain ⟨i, hi⟩ := List.getElem?_of_mem h1
    exact ⟨i, lot_mem.mpr ⟨p, hi, h2⟩, by rw [List.getD_eq_getElem?_getD, hi]; rfl⟩
theorem widest_sharp {ps : List UM.P} {s : UM.P} {n E : Nat} {l : UM.Lay} (D : UM.Done (UM.rowsU ps ++ [UM.rowF s]) n l) (hE : UM.EndOf l E) (hd : UM.Dis s) (hp : ∀ p ∈ ps, p.1 < 2 ^ n) (hs : s.2 < 2 ^ n) (h : UM.Sub s.2 E) : UM.sharp (UM.joinP (atL ps (lotOf ps E))) s = true := by
  have e := D.len
  subst e
  exact UM.Sharp_iff.mpr (UM.yes_of D.sound D.stuck hE hd hp hs h _ atL_mem)
/-- tuples of ints in a row -/
def Tups (H : Hp) (xs : List V) (ls : List (List Nat × Nat)) : Prop := xs.length = ls.length ∧ ∀ (i : Nat) v, xs[i]? = some v → ∃ p a, ls[i]? = some p ∧ v = .ref a ∧ H a = some (.tup (nV p.1))
theorem Tups.mono {H H' : Hp} {xs : List V} {ls : List (List Nat × Nat)} (e : Same H H') (h : Tups H xs ls) : Tups H' xs ls :=
  ⟨h.1, fun i v hv => let ⟨f, a, h1, h2, h3⟩ := h.2 i v hv; ⟨f, a, h1, h2, e _ _ h3⟩⟩
theorem Tups.snoc {H : Hp} {xs : List V} {ls : List (List Nat × Nat)} {p : List Nat × Nat} {a : Addr} (h : Tups H xs ls) (ha : H a = some (.tup (nV p.1))) : Tups H (xs ++ [.ref a]) (ls ++ [p]) := by
  refine ⟨by simp [h.1], fun i v hv => ?_⟩
  by_cases c : i < xs.length
  · rw [List.getElem?_append_left c] at hv
    obtain ⟨r', a', h1, h2⟩ := h.2 i v hv
    exact ⟨r', a', by rw [List.getElem?_append_left (by rw [← h.1]; exact c)]; exact h1, h2⟩
  · have hi : i = xs.length := by
      have := (List.getElem?_eq_some_iff.mp hv).1
      simp at this
      omega
    subst hi
    simp at hv
    subst hv
    exact ⟨p, a, by rw [h.1]; simp, rfl, ha⟩
theorem Tups.put {H : Hp} {xs ys zs : List V} {ls : List (List Nat × Nat)} {D : Addr} (h : Tups H xs ls) (hd : H D = some (.lst zs)) : Tups (upd H D (.lst ys)) xs ls :=
  ⟨h.1, fun i v hv => let ⟨f, a, h1, h2, h3⟩ := h.2 i v hv; ⟨f, a, h1, h2, by rw [upd_ne (ne_of h3 hd (by intro z; cases z))]; exact h3⟩⟩
theorem dp_ints {H : Hp} : ∀ ns : List Nat, ∃ ds, DpAll K H (nV ns) ds ∧ PyData.canLayAll0 ds = true ∧ PyData.depthAll ds = 0 ∧ PyData.eqvAll ds [] = ns.isEmpty := fun ns => by
  obtain ⟨ds, h1, h2, h3, h4⟩ := dp_flat (K := K) (H := H) (xs := nV ns) nV_flat
  refine ⟨ds, h1, h2, h3, ?_⟩
  rw [h4]
  cases ns <;> rfl
theorem dp_tups {H : Hp} : ∀ {xs : List V}, (∀ v ∈ xs, ∃ a L, v = .ref a ∧ H a = some (.tup (nV L))) → ∃ ds, DpAll K H xs ds ∧ PyData.canLayAll0 ds = true ∧ PyData.depthAll ds ≤ 1 ∧ PyData.eqvAll ds [] = xs.isEmpty
  | [], _ => ⟨[], .nil, rfl, Nat.zero_le _, rfl⟩
  | v :: xs, h => by
    obtain ⟨ds, h1, h2, h3, _⟩ := dp_tups (H := H) fun v hv => h v (List.mem_cons_of_mem _ hv)
    obtain ⟨a, L, rfl, ha⟩ := h v List.mem_cons_self
    obtain ⟨es, g1, g2, g3, g4⟩ := dp_ints (K := K) (H := H) L
    refine ⟨_, .cons (.tup (SqT.of ha) g1) h1, ?_, ?_, rfl⟩
    · show (PyData.canLayAll0 es && PyData.canLayAll0 ds) = true
      rw [g2, h2]; rfl
    · show max (PyData.depthAll es + 1) (PyData.depthAll ds) ≤ 1
      rw [g3]
      omega
theorem Tups.dp {H : Hp} {xs : List V} {ls : List (List Nat × Nat)} (h : Tups H xs ls) : ∀ v ∈ xs, ∃ a L, v = .ref a ∧ H a = some (.tup (nV L)) := fun v hv => by
  obtain ⟨i, hi⟩ := List.getElem?_of_mem hv
  obtain ⟨p, a, _, h2, h3⟩ := h.2 i v hi
  exact ⟨a, p.1, h2, h3⟩
theorem ne_emptyT {H : Hp} {a e : Addr} {xs : List V} {Q : VK} (ha : SqL K H a xs) (hf : ∀ v ∈ xs, ∃ a L, v = .ref a ∧ H a = some (.tup (nV L))) (he : SqL K H e []) (q : Q (.bl (!xs.isEmpty)) H) : rNeD K (.ref a) (.ref e) H Q := by
  obtain ⟨ds, h1, h2, h3, h4⟩ := dp_tups (K := K) hf
  refine ⟨_, _, .lst ha h1, .lst he .nil, ?_, shaped_flat (ds := []) rfl rfl, ?_⟩
  · unfold PySem.SeqAt.shaped PyData.canLay0 PyData.depth
    rw [h2, Bool.true_and]
    exact (decide_eq_true (by omega))
  · show Q (.bl (!PyData.eqvAll ds [])) H
    rw [h4]
    exact q
theorem eq_unit {H : Hp} {a e : Addr} {ns : List Nat} {Q : VK} (ha : H a = some (.tup (nV ns))) (he : H e = some (.tup [])) (q : Q (.bl ns.isEmpty) H) : rEqD K (.ref a) (.ref e) H Q := by
  obtain ⟨ds, h1, h2, h3, h4⟩ := dp_ints (K := K) (H := H) ns
  refine ⟨_, _, .tup (SqT.of ha) h1, .tup (SqT.of he) .nil, ?_, ?_, ?_⟩
  · unfold PySem.SeqAt.shaped PyData.canLay0 PyData.depth
    rw [h2, h3]
    decide
  · decide
  · show Q (.bl (PyData.eqvAll ds [])) H
    rw [h4]
    exact q
theorem atI_last {L : List Nat} {v : Nat} : atI (nV (L ++ [v])) (-1) = some (V.int (v : Int)) := by
  unfold atI ixN
  rw [nV_len, List.length_append, List.length_singleton]
  rw [if_neg (by omega), if_pos (by omega)]
  have e : (-1 + ((L.length + 1 : Nat) : Int)).toNat = L.length := by omega
  rw [e]
  unfold nV
  simp
/-- a walk with a body of its own, for the levels of a comprehension -/
theorem it_level {J : It} {n : Nat} {G : Hp → Prop} {Y : Nat → Hp → V → Hp → Prop} (w : Walk J n G Y) {B : V → Hp → (Hp → Prop) → Prop} {H0 : Hp} {Qd : Hp → Prop} (Pv : Nat → Hp → Prop) (h0 : Pv 0 H0) (hG : ∀ i H, i ≤ n → Pv i H → G H)
    (hs : ∀ i x H H', i < n → Pv i H → Y i H x H' → B x H' (Pv (i + 1))) (hd : ∀ H, Pv n H → Qd H) :
    ∃ W : Nat → Nat → Hp → Prop, (∃ m, W 0 m H0) ∧ ∀ i m H, W i m H → (J.stop i H ∧ Qd H) ∨ (J.go i H ∧ ∃ Nx : Hp → Prop, (∀ H', Nx H' → ∃ m', m' < m ∧ W (i + 1) m' H') ∧ ∀ x H', J.yld i H x H' → B x H' Nx) := by
  refine ⟨fun i m H => m = n - i ∧ i ≤ n ∧ Pv i H, ⟨n, (Nat.sub_zero n).symm, Nat.zero_le _, h0⟩, fun i m H hW => ?_⟩
  obtain ⟨rfl, hi, p⟩ := hW
  rcases Nat.lt_or_ge i n with lt | ge
  · exact .inr ⟨w.goes i H lt (hG i H hi p), Pv (i + 1), fun H' p' => ⟨n - (i + 1), by omega, rfl, lt, p'⟩, fun x H' y => hs i x H H' lt p (w.yields i H x H' lt (hG i H hi p) y)⟩
  · obtain rfl : i = n := Nat.le_antisymm hi ge
    exact .inl ⟨w.stops H (hG i H hi p), hd H p⟩
def spSharpLot (K : PySem.W.Frag) : Sp := fun vs H Q _ => ∃ (n c b t : Nat) (bk a : Addr) (xs : List V) (ps : List UM.P), vs = [.ref bk, .ref a] ∧ BookAt K H bk n xs ps ∧ SayAt K H a c b t true ∧ SayP n c b t ∧ 0 < n ∧ n ≤ 16 ∧ xs.length ≤ 12 ∧
  ∀ H' l, Same H H' → UM.Done (UM.rowsU ps ++ [UM.rowF (c, b)]) n l → (UM.Sub b (UM.maskO (UM.openL l)) → ∀ r, Q (.ref r) H') ∧ (¬ UM.Sub b (UM.maskO (UM.openL l)) → Q .non H')
theorem sc_sharp_lot : FnScope ["book", "saying", "widest", "layer", "lot", "number"] ["book", "saying"] (defScope (top 96)) := ⟨rfl, rfl, rfl, by decide +kernel, rfl, by decide +kernel, by decide +kernel⟩
theorem ok_sharp_lot (T : Txt K mg) : Ok P w K mg base 8 (ga K "sharp_lot") ["book", "saying"] (spSharpLot K) := by
  obtain ⟨fd, F⟩ := T.d_sharp_lot
  obtain ⟨_, G_widest_lot, b_widest_lot, k_widest_lot⟩ := ok_widest_lot (P := P) (w := w) (base := base) T
  obtain ⟨_, G_is_sharp, b_is_sharp, k_is_sharp⟩ := ok_is_sharp (P := P) (w := w) (base := base) T
  refine ⟨_, F.ok sc_sharp_lot (fun vs H Q E h => ?_) (fun cdv A outer s H vs Q E hr h => ?_), F.binds fun _ _ _ _ _ _ us hl => match us, hl with | [_, _], _ => rfl, F.kp⟩
  · obtain ⟨n, c, b, t, bk, a, xs, ps, rfl, _⟩ := h
    rfl
  · obtain ⟨n, c, b, t, bk, a, xs, ps, rfl, hB, ha, hP, hn0, hn, hx, q⟩ := h
    refine ⟨_, (pss_cons (ps_set (i := 2) sc_sharp_lot.nd rfl (Or.inr rfl) (pe_call G_widest_lot (hr.mono (by decide)) rfl T.g_widest_lot k_widest_lot b_widest_lot .nil pass0 (pa_cons (pv 0) (pa_cons (pv 1) pa_nil))))
      (pss_cons (ps_if (pt_cmpR op_isN (pv 2) pe_non (nomark _)) (pss_one (ps_ret pe_non)) pss_nil)
      (pss_cons (ps_set (i := 3) sc_sharp_lot.nd rfl (Or.inl rfl) (pe_lst (pa_cons (pe_tup pa_nil) pa_nil)))
      (pss_cons (ps_while PassesOwn.never (pt_cmpR (op_neD hr.units) (pv 3) (pe_lst pa_nil) (nomark _)) (pss_cons (ps_for PassesOwn.never rfl (pi_list (pv 3)) (pg_name (i := 4) sc_sharp_lot.nd rfl (Or.inl rfl)) (pss_one (ps_if (pt_val (pe_call G_is_sharp (hr.mono (by decide)) rfl T.g_is_sharp k_is_sharp b_is_sharp .nil pass0 (pa_cons (pv 0) (pa_cons (pv 4) (pa_cons (pv 1) pa_nil))))) (pss_one (ps_ret (pv 4))) pss_nil))) (pss_one (ps_setLc2 (i := 3) (own := [("lot", 4), ("number", 5)]) (vs1 := [5]) rfl sc_sharp_lot.nd rfl rfl (sw_true rfl rfl rfl (by decide +kernel)) (pi_list (pv 3)) (blkOk_by (own := [("lot", 4), ("number", 5)]) (N := ["book", "saying", "widest", "layer", "lot", "number"]) (sc := defScope (top 96)) (by decide +kernel)) (by decide) (fun _ _ _ _ _ => (pg_name (i := 4) sc_sharp_lot.nd rfl (Or.inl rfl))) (fun _ _ _ _ _ => pts_nil) (fun _ _ _ _ _ => (kiTup (K := K) (pv 2) rfl)) (fun _ _ _ _ _ => (pg_name (i := 5) sc_sharp_lot.nd rfl (Or.inl rfl))) (fun _ _ _ _ _ => pts_one (PW.pt (pw_or (pt_cmpR (kEqD (K := K) hr.units rfl) (pv 4) (pe_tup pa_nil) (nomark _)) (pw_or1 (pt_cmpR op_gt (pv 5) (kixT (K := K) (pv 4) (pe_un un_neg pe_int) (fun _ _ => rfl) rfl) (nomark _)))))) (fun _ _ _ _ _ => (pe_op (kcatA (K := K) rfl) (pv 4) (pe_tup (pa_cons (pv 5) pa_nil)))))))) (pss_one (ps_ret pe_non)))))), ?_⟩
    walk_at "rd"
    refine ⟨n, c, b, t, bk, a, xs, ps, rfl, hB, ha, hP, hn0, hn, hx, fun H1 l e1 hd => ⟨fun hE r hr => ?_, fun hE => ?_⟩⟩
    rotate_left
    · walk_at "rd"
      exact (q H1 l e1 hd).2 hE
    walk_at "rd"
    refine ⟨by show 0 ≤ sizeLine; decide, fun u0 hu0 => ?_⟩
    walk_at "rd"
    refine ⟨by show 1 ≤ sizeLine; decide, fun L0 hL0 => ?_⟩
    have hpl : xs.length = ps.length := by obtain ⟨m, t', hb0, hm, ht, hs⟩ := id hB; exact hs.1
    have hpb : ∀ p ∈ ps, p.1 < 2 ^ n := by
      obtain ⟨m, t', hb0, hm, ht, hs⟩ := id hB
      intro p hp
      obtain ⟨t2, hp2⟩ := hs.bound p hp
      exact hp2.c1
    have hsharp := widest_sharp hd (UM.end_maskO l) (and_dis hP.d) hpb hP.b1 hE
    have hasc := lot_asc ps (UM.maskO (UM.openL l))
    have hWlt : ∀ i ∈ lotOf ps (UM.maskO (UM.openL l)), i < ps.length := fun i hi => lot_lt hi
    have hWl : (lotOf ps (UM.maskO (UM.openL l))).length ≤ 12 := Nat.le_trans (UM.fm_len _ ps) (by omega)
    revert hr hsharp hasc hWlt hWl
    generalize lotOf ps (UM.maskO (UM.openL l)) = W
    intro hr hsharp hasc hWlt hWl
    have e2 : Same H1 (upd (upd H1 u0 (.tup [])) L0 (.lst [.ref u0])) := Same.push (Same.new hu0) hL0
    have p12 : 2 ^ W.length ≤ 4096 := Nat.pow_le_pow_right (n := 2) (by decide) hWl
    refine ⟨fun m σ H' => ∃ (Ly : Addr) (ys : List V) (ls : List (List Nat × Nat)) (k : Nat) (v4 v5 : Option V), σ = [some (.ref bk), some (.ref a), some (.ref r), some (.ref Ly), v4, v5] ∧ Same H1 H' ∧ H' Ly = some (.lst ys) ∧ Tups H' ys ls ∧ (∀ p ∈ ls, UM.Good W p) ∧ UM.pot W.length ls ≤ 2 ^ W.length ∧ (W.take k, k) ∈ ls ∧ k ≤ W.length ∧ m = W.length + 1 - k,
      ⟨_, L0, [.ref u0], [([], 0)], 0, none, none, rfl, e2, upd_same, ⟨rfl, fun i v hv => ?_⟩, fun p hp => by rw [List.mem_singleton.mp hp]; exact UM.good_nil W, by rw [UM.pot_one]; exact Nat.le_refl _, List.mem_singleton.mpr rfl, Nat.zero_le _, rfl⟩, ?_⟩
    · cases i with
      | zero => cases hv; exact ⟨_, u0, rfl, rfl, get_push hL0 upd_same⟩
      | succ i => simp at hv
    rintro m σ H2 ⟨Ly, ys, ls, k, v4, v5, rfl, e3, hLy, hT, hG, hpot, hpre, hkW, rfl⟩
    have hne : ys.isEmpty = false := by
      cases ys with
      | nil => have := hT.1; rw [List.eq_nil_of_length_eq_zero this.symm] at hpre; cases hpre
      | cons => rfl
    walk_at "rd"
    refine ⟨by show 0 ≤ sizeLine; decide, fun eb heb => ne_emptyT (SqL.of (get_push heb hLy)) (hT.mono (Same.new heb)).dp (SqL.of upd_same) ?_⟩
    have e4 : Same H2 (upd H2 eb (.lst [])) := Same.new heb
    revert e4
    generalize upd H2 eb (.lst []) = H3
    intro e4
    have hLy3 := e4 _ _ hLy
    have hT3 := hT.mono e4
    have e13 := e3.trans e4
    have hr3 : SqT K H3 r (nV W) := SqT.of (e13 _ _ hr)
    rw [hne]
    walk_at "rd"
    refine ⟨_, fun _ _ z => z, ?_⟩
    walk_at "rd"
    refine ⟨⟨_, SqL.of hLy3⟩, for_list (K := K) (a := Ly) (xs := ys) (fun i σ H' => ∃ v4 : Option V, σ = [some (.ref bk), some (.ref a), some (.ref r), some (.ref Ly), v4, v5] ∧ Same H3 H' ∧ ∀ j, j < i → ∀ p, ls[j]? = some p → UM.sharp (UM.joinP (atL ps p.1)) (c, b) = false) ⟨v4, rfl, Same.refl _, fun j h => by omega⟩ (fun i σ H' _ h => by obtain ⟨_, _, e, _⟩ := h; exact SqL.of (e _ _ hLy3)) ?_ ?_⟩
    · rintro i x σ H4 hx1 ⟨v4, rfl, e5, hno⟩
      obtain ⟨p, aa, hp1, rfl, hp3⟩ := hT3.2 i x hx1
      have hg := hG p (List.mem_of_getElem? hp1)
      have e15 := e1.trans (e13.trans e5)
      walk_at "rd"
      refine ⟨bk, aa, a, n, xs, ps, p.1, c, b, t, rfl, hB.mono e15, SqT.of (e5 _ _ hp3), fun i hi => hWlt i (hg.2.2.1 i hi), by have := hg.1; have := hg.2.1; omega, hn, ha.mono e15, hP, fun H5 e6 => ?_⟩
      cases hsh : UM.sharp (UM.joinP (atL ps p.1)) (c, b) with
      | true =>
        walk_at "rd"
        exact (q _ l (e15.trans e6) hd).1 hE aa
      | false =>
        walk_at "rd"
        refine ⟨e5.trans e6, fun j hj p' hp' => ?_⟩
        rcases Nat.lt_or_eq_of_le (Nat.lt_succ_iff.mp hj) with h | h
        · exact hno j h p' hp'
        · subst h
          rw [hp1] at hp'
          cases hp'
          exact hsh
    · rintro σ H4 ⟨v4, rfl, e5, hno⟩
      have hkN : k < W.length := by
        rcases Nat.lt_or_eq_of_le hkW with h | h
        · exact h
        · subst h
          obtain ⟨j, hj⟩ := List.getElem?_of_mem hpre
          have := hno j (by rw [hT3.1]; exact (List.getElem?_eq_some_iff.mp hj).1) _ hj
          rw [List.take_length] at this
          rw [hsharp] at this
          cases this
      have hLy4 := e5 _ _ hLy3
      have hT4 := hT3.mono e5
      have hr4 : SqT K H4 r (nV W) := Same.tup e5 hr3
      walk_at "rd"
      refine ⟨⟨_, SqL.of hLy4⟩, fun D hD => it_level (walk_list (K := K) (a := Ly) (xs := ys)) (fun i H' => ∃ acc al, Same H4 H' ∧ H' D = some (.lst acc) ∧ Tups H' acc al ∧ (∀ p ∈ al, UM.Good W p) ∧ UM.pot W.length al ≤ UM.pot W.length (ls.take i) ∧ ∀ j, j < i → ∀ p, ls[j]? = some p → ∀ v, W[p.2]? = some v → (p.1 ++ [v], p.2 + 1) ∈ al)
        ⟨[], [], Same.new hD, upd_same, ⟨rfl, fun i v hv => by cases hv⟩, (fun p hp => by cases hp), Nat.le_refl _, fun j h => by omega⟩ (fun i H' _ h => by obtain ⟨_, _, e, _⟩ := h; exact SqL.of (e _ _ hLy4)) ?_ ?_⟩
      · rintro i x H5 H6 hi ⟨acc, al, e6, hDa, hTa, hGa, hpa, hma⟩ ⟨rfl, hx1⟩
        obtain ⟨p, aa, hp1, rfl, hp3⟩ := hT4.2 i x hx1
        have hg := hG p (List.mem_of_getElem? hp1)
        have hps := UM.pot_succ W.length hp1
        have hpt := UM.pot_take W.length ls (i + 1)
        have hr6 := Same.tup e6 hr4
        walk_at "rd"
        refine ⟨⟨_, hr6⟩, it_level (walk_tup (K := K) (a := r) (xs := nV W)) (fun j H' => ∃ acc al, Same H4 H' ∧ H' D = some (.lst acc) ∧ Tups H' acc al ∧ (∀ p ∈ al, UM.Good W p) ∧ UM.pot W.length al + 2 ^ (W.length - max j p.2) ≤ UM.pot W.length (ls.take (i + 1)) ∧ (∀ j, j < i → ∀ p, ls[j]? = some p → ∀ v, W[p.2]? = some v → (p.1 ++ [v], p.2 + 1) ∈ al) ∧ (p.2 < j → ∀ v, W[p.2]? = some v → (p.1 ++ [v], p.2 + 1) ∈ al))
          ⟨acc, al, e6, hDa, hTa, hGa, by rw [Nat.zero_max]; omega, hma, fun h => by omega⟩ (fun j H' _ h => by obtain ⟨_, _, e, _⟩ := h; exact Same.tup e hr4) ?_ ?_⟩
        · rintro j y H7 H8 hj ⟨acc, al, e7, hDa, hTa, hGa, hpa, hma, hmb⟩ ⟨rfl, hy1⟩
          obtain ⟨v, hv, rfl⟩ := get_map hy1
          rw [nV_len] at hj
          have hp8 := e7 _ _ hp3
          have skip : j < p.2 → ∀ H9, Same H8 H9 → ∃ acc al, Same H4 H9 ∧ H9 D = some (.lst acc) ∧ Tups H9 acc al ∧ (∀ p ∈ al, UM.Good W p) ∧ UM.pot W.length al + 2 ^ (W.length - max (j + 1) p.2) ≤ UM.pot W.length (ls.take (i + 1)) ∧ (∀ j, j < i → ∀ p, ls[j]? = some p → ∀ v, W[p.2]? = some v → (p.1 ++ [v], p.2 + 1) ∈ al) ∧ (p.2 < j + 1 → ∀ v, W[p.2]? = some v → (p.1 ++ [v], p.2 + 1) ∈ al) := fun h H9 e9 =>
            ⟨acc, al, e7.trans e9, e9 _ _ hDa, hTa.mono e9, hGa, by rw [Nat.max_eq_right (by omega)]; rw [Nat.max_eq_right (by omega)] at hpa; exact hpa, hma, fun h2 => by omega⟩
          have add : p.2 ≤ j → ∀ H9 z, Same H8 H9 → H9 z = some (.tup (nV (p.1 ++ [v]))) → ∃ acc, H9 D = some (.lst acc) ∧ acc.length < sizeLine ∧ ∃ acc' al, Same H4 (upd H9 D (.lst (acc ++ [.ref z]))) ∧ upd H9 D (.lst (acc ++ [.ref z])) D = some (.lst acc') ∧ Tups (upd H9 D (.lst (acc ++ [.ref z]))) acc' al ∧ (∀ p ∈ al, UM.Good W p) ∧ UM.pot W.length al + 2 ^ (W.length - max (j + 1) p.2) ≤ UM.pot W.length (ls.take (i + 1)) ∧
              (∀ j, j < i → ∀ p, ls[j]? = some p → ∀ v, W[p.2]? = some v → (p.1 ++ [v], p.2 + 1) ∈ al) ∧ (p.2 < j + 1 → ∀ v, W[p.2]? = some v → (p.1 ++ [v], p.2 + 1) ∈ al) := fun h H9 z e9 hz => by
            rw [Nat.max_eq_left h] at hpa
            have h2 := UM.two_split hj
            refine ⟨acc, e9 _ _ hDa, ?_, acc ++ [.ref z], al ++ [(p.1 ++ [v], j + 1)], Same.own (e7.trans e9) hD, upd_same, ((hTa.mono e9).snoc (p := (p.1 ++ [v], j + 1)) hz).put (e9 _ _ hDa), fun p' hp' => ?_, ?_, fun j' hj' p' hp' v' hv' => List.mem_append_left _ (hma j' hj' p' hp' v' hv'), fun h3 v' hv' => ?_⟩
            · rw [hTa.1]
              exact Nat.lt_of_le_of_lt (Nat.le_trans (UM.len_pot W.length al) (Nat.le_trans (Nat.le_trans (Nat.le_add_right _ _) hpa) (Nat.le_trans hpt (Nat.le_trans hpot p12)))) (by decide)
            · rcases List.mem_append.mp hp' with h3 | h3
              · exact hGa p' h3
              · rw [List.mem_singleton.mp h3]
                exact UM.good_snoc hg h hv
            · rw [UM.pot_append, UM.pot_one, Nat.max_eq_left (by omega)]
              show UM.pot W.length al + 2 ^ (W.length - (j + 1)) + 2 ^ (W.length - (j + 1)) ≤ _
              omega
            · by_cases c2 : p.2 < j
              · exact List.mem_append_left _ (hmb c2 v' hv')
              · have : p.2 = j := by omega
                rw [this, hv] at hv'
                cases hv'
                rw [this]
                exact List.mem_append_right _ (List.mem_singleton.mpr rfl)
          have fin : p.2 ≤ j → ∀ H9, Same H8 H9 → tOp (rCatA K) (tVar 4) (tTup (tCons (tVar 5) tNil)) [some (V.ref bk), some (V.ref a), some (V.ref r), some (V.ref Ly), some (V.ref aa), some (V.int (v : Int))] H9 fun y H7 => ∃ acc, H7 D = some (.lst acc) ∧ acc.length < sizeLine ∧ ∃ acc' al, Same H4 (upd H7 D (.lst (acc ++ [y]))) ∧ upd H7 D (.lst (acc ++ [y])) D = some (.lst acc') ∧ Tups (upd H7 D (.lst (acc ++ [y]))) acc' al ∧ (∀ p ∈ al, UM.Good W p) ∧ UM.pot W.length al + 2 ^ (W.length - max (j + 1) p.2) ≤ UM.pot W.length (ls.take (i + 1)) ∧
              (∀ j, j < i → ∀ p, ls[j]? = some p → ∀ v, W[p.2]? = some v → (p.1 ++ [v], p.2 + 1) ∈ al) ∧ (p.2 < j + 1 → ∀ v, W[p.2]? = some v → (p.1 ++ [v], p.2 + 1) ∈ al) := fun h H9 e9 => by
            have hp9 := e9 _ _ hp8
            walk_at "rd"
            refine ⟨by show 1 ≤ sizeLine; decide, fun tu htu => ?_⟩
            have e10 : Same H9 (upd H9 tu (.tup [.int (v : Int)])) := Same.new htu
            refine ⟨aa, tu, nV p.1, [.int (v : Int)], rfl, rfl, SqT.of (e10 _ _ hp9), SqT.of upd_same, ?_, fun h0 => ?_, (fun _ h1 => by cases h1), fun _ _ z hz => ?_⟩
            · rw [nV_len]
              have := hg.1
              have := hg.2.1
              exact Nat.le_trans (by show p.1.length + 1 ≤ 13; omega) (by decide)
            · have : p.1 = [] := List.map_eq_nil_iff.mp h0
              refine add h _ tu (e9.trans e10) ?_
              rw [upd_same, this]
              rfl
            · refine add h _ z (Same.push (e9.trans e10) hz) ?_
              rw [upd_same]
              unfold nV
              rw [List.map_append]
              rfl
          walk_at "rd"
          refine ⟨by show 0 ≤ sizeLine; decide, fun eu heu => eq_unit (get_push heu hp8) upd_same ?_⟩
          have e9 : Same H8 (upd H8 eu (.tup [])) := Same.new heu
          rcases hg.2.2.2 with ⟨q0, hL⟩ | ⟨L1, w1, hL, h1, h2⟩
          · have hi : p.1.isEmpty = true := by rw [hL]; rfl
            rw [hi]
            refine ⟨_, rfl, ?_⟩
            exact ite_tt rfl (ite_tt rfl (fin (by omega) _ e9))
          · have hi : p.1.isEmpty = false := by rw [hL]; simp
            rw [hi]
            walk_at "rd"
            refine ⟨_, _, _, _, rfl, rfl, SqT.of (e9 _ _ hp8), by rw [hL]; exact atI_last, ?_⟩
            walk_at "rd"
            have hab := UM.above_last hasc h1 h2 hv
            by_cases c3 : p.2 ≤ j
            · have : decide ((w1 : Int) < (v : Int)) = true := decide_eq_true (by have := hab.mpr c3; omega)
              rw [this]
              exact ite_tt rfl (fin c3 _ e9)
            · have : decide ((w1 : Int) < (v : Int)) = false := decide_eq_false (fun z => c3 (hab.mp (by omega)))
              rw [this]
              walk_at "rd"
              exact skip (by omega) _ e9
        · rintro H7 ⟨acc, al, e7, hDa, hTa, hGa, hpa, hma, hmb⟩
          rw [nV_len] at hpa hmb
          refine ⟨acc, al, e7, hDa, hTa, hGa, Nat.le_trans (Nat.le_add_right _ _) hpa, fun j hj p' hp' v hv => ?_⟩
          rcases Nat.lt_or_eq_of_le (Nat.lt_succ_iff.mp hj) with h | h
          · exact hma j h p' hp' v hv
          · subst h
            rw [hp1] at hp'
            cases hp'
            exact hmb (List.getElem?_eq_some_iff.mp hv).1 v hv
      · rintro H5 ⟨acc, al, e6, hDa, hTa, hGa, hpa, hma⟩
        rw [hT4.1] at hpa hma
        rw [List.take_length] at hpa
        walk_at "rd"
        obtain ⟨j, hj⟩ := List.getElem?_of_mem hpre
        have hv : W[k]? = some W[k] := List.getElem?_eq_getElem hkN
        have hnew := hma j (List.getElem?_eq_some_iff.mp hj).1 _ hj _ hv
        refine ⟨W.length + 1 - (k + 1), by omega, D, acc, al, k + 1, _, _, rfl, e13.trans (e5.trans e6), hDa, hTa, hGa, Nat.le_trans hpa hpot, ?_, hkN, rfl⟩
        rw [List.take_add_one, hv]
        exact hnew
end
end U
set_option maxHeartbeats 4100000
namespace U
open L2 PyProof.Rows PySem PySem.Spec
section
variable {X : Cx} {tg : Expr}
/-- range(n) of a small n -/
def iRngN (ta : TA) : TI := fun σ H R => ta σ H fun vs H1 => ∃ n : Nat, vs = [.int (n : Int)] ∧ n ≤ 1000000 ∧ R (Itr 0 n) H1
theorem pi_rangeN {a : Expr} {ta : TA} {p pos : Pos} (hg : Gl X "range") (hm : X.mg "range" = none) (ha : PA X [a] ta) (hs : starEach [a] X.env = [(false, eval a X.env)] := by rfl) : PI X tg (.Call (.Name "range" p) [a] [] pos) (iRngN ta) := by
  refine ⟨fun held s σ H R Iv hq => Call_ (ld_blt Iv hg hm boot_range (PyProof.Rows.callWith_type1 (thn (ha.run pos held s σ H _ Iv hq) fun us s1 got => ?_) hs rfl))⟩
  obtain ⟨vs, H1, I1, rel, n, rfl, small, q⟩ := got
  cases rel with
  | cons r0 none0 =>
    cases none0
    obtain ⟨t, rfl⟩ := r0
    exact call_range_1 (range_it (hi := (n : Int)) I1 (by omega) (by omega) (by omega) (by omega) (by simpa using q))
end
theorem walk_rangeN {n : Nat} : Walk (Itr 0 n) n (fun _ => True) (YFn fun i => .int ((i : Nat) : Int)) :=
  Walk.mono walk_range (fun _ h => h) fun i H x H' _ _ y => ⟨y.1, y.2.trans (congrArg V.int (Int.zero_add _))⟩
end U
set_option maxHeartbeats 4100000
namespace U
open PySem L2 He
local macro_rules | `(tactic| walk_at "same") => `(tactic| first | (with_reducible assumption) | exact Same.refl _ | (refine Same.push ?_ (by assumption); walk_at "same") | (refine Same.own ?_ (by assumption); walk_at "same") | (refine Same.trans ?_ (by with_reducible assumption); walk_at "same"))
local macro_rules | `(tactic| walk_at "get") => `(tactic| first | assumption | exact upd_same | (refine get_push (by assumption) ?_; walk_at "get") | (refine get_ne (by assumption) ?_; walk_at "get") | (refine get_ne' (by assumption) ?_; walk_at "get") | (refine Same.get ?_ (by assumption); walk_at "same"))
local macro_rules | `(tactic| walk_at "has") => `(tactic| first | assumption | (refine Has.mono ?_ (by assumption); walk_at "same"))
local macro_rules | `(tactic| walk_at "sql") => `(tactic| first | assumption | exact SqL.of upd_same | exact SqL.of (by assumption) | (refine Same.seq ?_ (by assumption); walk_at "same") | (refine SqL.of ?_; walk_at "get"))
local macro_rules | `(tactic| walk_at "sqt") => `(tactic| first | assumption | exact SqT.of upd_same | exact SqT.of (by assumption) | (refine Same.tup ?_ (by assumption); walk_at "same") | (refine SqT.of ?_; walk_at "get"))
local macro_rules | `(tactic| walk_at "r1") => `(tactic| first | ((with_reducible refine ite_tt ?_ ?_); (focus exact rfl)) | ((with_reducible refine ite_ff ?_ ?_); (focus exact rfl)) | refine ⟨_, rfl, ?_⟩ | refine ⟨_, _, rfl, rfl, ?_⟩ | (refine ⟨rfl, ?_⟩) | refine ⟨(Int.natCast_nonneg _ : (0 : Int) ≤ _), ?_⟩ | refine ⟨_, _, rfl, ?_⟩ | refine ⟨_, _, _, rfl, ?_⟩ | (refine Has.ans (by walk_at "has") ?_) | refine ⟨_, _, _, _, rfl, rfl, (by walk_at "sql"), rfl, ?_⟩ | refine ⟨_, _, rfl, .inl (by walk_at "sql"), ?_⟩ | refine ⟨_, _, rfl, .inr (by walk_at "sqt"), ?_⟩ | refine ⟨_, _, _, _, rfl, rfl, (by walk_at "sqt"), rfl, ?_⟩ | refine ⟨_, _, rfl, (by walk_at "sqt"), rfl, ?_⟩ | refine ⟨_, _, _, _, rfl, (by walk_at "get"), (by assumption), (by assumption), (by walk_at "len"), ?_⟩ | refine ⟨_, _, _, _, _, rfl, (by walk_at "get"), (by assumption), (by assumption), (by walk_at "lk"), ?_⟩)
local macro_rules | `(tactic| walk_at "rd") => `(tactic| repeat walk_at "r1")
local macro_rules | `(tactic| walk_at "lk") => `(tactic| first | (with_reducible exact lk_hit) | (refine lk_miss (by decide +kernel) ?_; walk_at "lk") | rfl)
local macro_rules | `(tactic| walk_at "len") => `(tactic| (refine Nat.lt_of_le_of_lt (m := 60) ?_ (by decide); (repeat (refine len_put ?_)); exact Nat.zero_le _))
local macro_rules | `(tactic| walk_at "len9") => `(tactic| (refine Nat.le_trans (m := 60) ?_ (by decide); (repeat (refine len_put ?_)); exact Nat.zero_le _))
local macro_rules | `(tactic| walk_at "own") => `(tactic| first | assumption | (refine Same.own ?_ (by assumption); walk_at "own"))

section
variable {P : Program} {w : World} {base : Heap}
variable {K : PySem.W.Frag} {mg : Str → Option Value}
/-! ### the well: a list of three ints of which any digits may come -/
def WS (H : Hp) (z : Addr) : Prop := ∃ c m k : Int, H z = some (.lst [.int c, .int m, .int k])
/-- from H to H' the well at z may have changed, nothing else that stood -/
structure FW (z : Addr) (H H' : Hp) : Prop where
  same : Same (drp z H) H'
  ws : WS H' z
theorem FW.refl {z : Addr} {H : Hp} (h : WS H z) : FW z H H := ⟨drp_same, h⟩
theorem FW.dd {z : Addr} {H H' : Hp} (h : FW z H H') : Same (drp z H) (drp z H') := same_drp h.same drp_self
theorem FW.trans {z : Addr} {H H' H2 : Hp} (h : FW z H H') (g : FW z H' H2) : FW z H H2 := ⟨h.dd.trans g.same, g.ws⟩
theorem FW.of {z : Addr} {H H' : Hp} (h : WS H z) (e : Same H H') : FW z H H' := by
  obtain ⟨c, m, k, hw⟩ := h
  exact ⟨drp_same.trans e, c, m, k, e _ _ hw⟩
theorem WS.mono {z : Addr} {H H' : Hp} (h : WS H z) (e : Same H H') : WS H' z := by
  obtain ⟨c, m, k, hw⟩ := h
  exact ⟨c, m, k, e _ _ hw⟩
theorem WS.ne {z a : Addr} {H : Hp} (h : WS H z) (ha : H a = none) : z ≠ a := by
  obtain ⟨c, m, k, hw⟩ := h
  exact ne_of_none hw ha
theorem FW.put {z : Addr} {H H' : Hp} {a : Addr} {o : HO} (h : FW z H H') (hz : z ≠ a) (ha : H a = none) : FW z H (upd H' a o) := by
  obtain ⟨c, m, k, hw⟩ := h.ws
  exact ⟨Same.own h.same (by unfold drp; rw [if_neg hz.symm]; exact ha), c, m, k, by rw [upd_ne hz]; exact hw⟩
theorem FW.push {z : Addr} {H H' : Hp} {a : Addr} {o : HO} (h : FW z H H') (ha : H' a = none) : FW z H (upd H' a o) := h.trans (FW.of h.ws (Same.new ha))
theorem FW.get {z a : Addr} {H H' : Hp} {o : HO} (h : FW z H H') (hz : z ≠ a) (ha : H a = some o) : H' a = some o := h.same _ _ (by rw [drp_ne hz.symm]; exact ha)
theorem Same.drp {z : Addr} {H H' : Hp} (e : Same H H') : Same (drp z H) (U.drp z H') := same_drp (drp_same.trans e) drp_self
theorem fmod_nat (c : Int) {many : Nat} (h : 0 < many) : ∃ d : Nat, d < many ∧ c.fmod (many : Int) = (d : Int) := by
  rw [Int.fmod_eq_emod_of_nonneg c (by omega)]
  have h1 := Int.emod_nonneg c (show (many : Int) ≠ 0 by omega)
  have h2 := Int.emod_lt_of_pos c (show (0 : Int) < (many : Int) by omega)
  exact ⟨(c % (many : Int)).toNat, by omega, by omega⟩
theorem cut_int {ns : List Int} {lo hi : Option Int} {i : Nat} {v : V} (h : (cutV (ns.map V.int) lo hi)[i]? = some v) : ∃ k : Int, v = .int k := by
  have h1 := List.mem_of_getElem? h
  unfold cutV at h1
  obtain ⟨k, _, e⟩ := List.mem_map.mp (List.mem_of_mem_drop (List.mem_of_mem_take h1))
  exact ⟨k, e.symm⟩
def spWell (K : PySem.W.Frag) : Sp := fun vs H Q _ => ∃ (a : Addr) (ns : List Int) (p : Nat), vs = [.ref a, .int p] ∧ SqL K H a (ns.map V.int) ∧ ns.length ≤ 63 ∧ ∀ H' r, Same H H' → H r = none → WS H' r → Q (.ref r) H'
theorem sc_law_well : FnScope ["_law_script", "_law_at", "_law_cell", "_law_mix", "_law_k", "_law_each"] ["_law_script", "_law_at"] (defScope (top 99)) := ⟨rfl, rfl, rfl, by decide +kernel, rfl, by decide +kernel, by decide +kernel⟩
theorem ok_law_well (T : Txt K mg) : Ok P w K mg base 1 (ga K "_law_well") ["_law_script", "_law_at"] (spWell K) := by
  obtain ⟨fd, F⟩ := T.d_law_well
  refine ⟨_, F.ok sc_law_well (fun vs H Q E h => ?_) (fun cdv A outer s H vs Q E hr h => ?_), F.binds fun _ _ _ _ _ _ us hl => match us, hl with | [_, _], _ => rfl, F.kp⟩
  · obtain ⟨a, ns, p, rfl, _⟩ := h
    rfl
  · obtain ⟨a, ns, p, rfl, ha, hl, q⟩ := h
    refine ⟨_, (pss_cons (ps_set (i := 2) sc_law_well.nd rfl (Or.inl rfl) (pe_ifExp (pt_cmpR op_lt (pv 1) (pe_callB call_len_seq (by rfl) T.b_len (by decide +kernel) (pa_cons (pv 0) pa_nil)) (nomark _)) (pe_callB call_abs (by rfl) T.b_abs (by decide +kernel) (pa_cons (pe_callTy call_int1 (by rfl) T.b_int (by decide +kernel) (pa_cons (pe_ix ix_list (pv 0) (pv 1) (fun _ _ => rfl)) pa_nil)) pa_nil)) pe_int))
      (pss_cons (ps_set (i := 3) sc_law_well.nd rfl (Or.inl rfl) (pe_op op_add pe_int (pe_op op_mul pe_int (pv 1))))
      (pss_cons (ps_for PassesOwn.never rfl (pi_enum (by rfl) T.b_enumerate (pa_cons (pe_slice sl_list (pv 0) po_none (po_some pe_int)) pa_nil)) (pg_tup rfl (pgs_cons (pg_name (i := 4) sc_law_well.nd rfl (Or.inl rfl)) (pgs_cons (pg_name (i := 5) sc_law_well.nd rfl (Or.inl rfl)) pgs_nil))) (pss_one (ps_set (i := 3) sc_law_well.nd rfl (Or.inl rfl) (pe_op op_modN (pe_op op_add (pe_op op_add (pe_op op_add (pe_op op_mul (pv 3) pe_int) (pe_op op_modN (pe_callTy call_int1 (by rfl) T.b_int (by decide +kernel) (pa_cons (pv 5) pa_nil)) pe_int)) (pe_op op_mul pe_int (pv 4))) pe_int) pe_int)))) (pss_one (ps_ret (pe_lst (pa_cons (pe_ifExp (pt_cmpR op_ge (pv 2) (pe_op op_pow pe_int pe_int) (nomark _)) (pv 2) pe_int) (pa_cons (pv 3) (pa_cons pe_int pa_nil))))))))), ?_⟩
    walk_at "rd"
    have h2 : decide ((p : Int) < ((ns.map V.int).length : Int)) = true ∨ decide ((p : Int) < ((ns.map V.int).length : Int)) = false := by cases decide ((p : Int) < ((ns.map V.int).length : Int)) <;> simp
    rcases h2 with h2 | h2
    · rw [h2]
      have hp : p < ns.length := by have := of_decide_eq_true h2; rw [List.length_map] at this; omega
      walk_at "rd"
      refine ⟨_, _, _, _, rfl, rfl, ha, atI_nat (by rw [List.getElem?_map, List.getElem?_eq_getElem hp]; rfl), ?_⟩
      walk_at "rd"
      refine .inl ⟨_, rfl, ?_⟩
      walk_at "rd"
      refine ⟨.inl ⟨by decide, by decide⟩, ?_⟩
      walk_at "rd"
      refine ⟨a, _, rfl, ha, fun pl hpl => ?_⟩
      have e1 : Same H (upd H pl (.lst (cutV (ns.map V.int) none (some 63)))) := Same.new hpl
      have hc1 : upd H pl (.lst (cutV (ns.map V.int) none (some 63))) pl = some (.lst (cutV (ns.map V.int) none (some 63))) := upd_same
      walk_at "rd"
      refine ⟨pl, _, rfl, SqL.of hc1, for_it (walk_enum (K := K) (a := pl) (xs := cutV (ns.map V.int) none (some 63))) (fun i σ H' => ∃ (v2 v3 : Int) (v4 v5 : Option V), Same (upd H pl (.lst (cutV (ns.map V.int) none (some 63)))) H' ∧ σ = [some (.ref a), some (.int p), some (.int v2), some (.int v3), v4, v5]) ⟨_, _, none, none, Same.refl _, rfl⟩ (fun i σ H' _ h => by obtain ⟨_, _, _, _, e, _⟩ := h; exact SqL.of (e _ _ hc1)) ?_ ?_⟩
      · rintro i x σ H2 H3 hi ⟨v2, v3, v4, v5, e2, rfl⟩ ⟨Tp, y1, y2, rfl, hT, rfl, hy1, hy2⟩
        cases hy1
        obtain ⟨k, rfl⟩ := cut_int hy2
        walk_at "rd"
        refine ⟨.inr ⟨by decide, by decide⟩, ?_⟩
        walk_at "rd"
        refine .inl ⟨_, rfl, ?_⟩
        walk_at "rd"
        refine ⟨show (2147483399 : Int) ≠ 0 by decide, ?_⟩
        walk_at "rd"
        refine ⟨.inl ⟨by decide, by decide⟩, ?_⟩
        walk_at "rd"
        refine ⟨show (2147483647 : Int) ≠ 0 by decide, ?_⟩
        exact ⟨v2, _, _, _, Same.push e2 hT, rfl⟩
      · rintro σ H2 ⟨v2, v3, v4, v5, e2, rfl⟩
        walk_at "rd"
        refine ⟨⟨by decide, by decide, by decide⟩, ?_⟩
        walk_at "rd"
        have h3 : decide ((10 : Int) ^ Int.toNat 18 ≤ v2) = true ∨ decide ((10 : Int) ^ Int.toNat 18 ≤ v2) = false := by cases decide ((10 : Int) ^ Int.toNat 18 ≤ v2) <;> simp
        rcases h3 with h3 | h3 <;>
        · rw [h3]
          walk_at "rd"
          refine ⟨by show 3 ≤ sizeLine; decide, fun r hr => ?_⟩
          exact q _ r (Same.push (e1.trans e2) hr) (Same.free (e1.trans e2) hr) ⟨_, _, _, upd_same⟩
    · rw [h2]
      walk_at "rd"
      refine ⟨.inl ⟨by decide, by decide⟩, ?_⟩
      walk_at "rd"
      refine ⟨a, _, rfl, ha, fun pl hpl => ?_⟩
      have e1 : Same H (upd H pl (.lst (cutV (ns.map V.int) none (some 63)))) := Same.new hpl
      have hc1 : upd H pl (.lst (cutV (ns.map V.int) none (some 63))) pl = some (.lst (cutV (ns.map V.int) none (some 63))) := upd_same
      walk_at "rd"
      refine ⟨pl, _, rfl, SqL.of hc1, for_it (walk_enum (K := K) (a := pl) (xs := cutV (ns.map V.int) none (some 63))) (fun i σ H' => ∃ (v2 v3 : Int) (v4 v5 : Option V), Same (upd H pl (.lst (cutV (ns.map V.int) none (some 63)))) H' ∧ σ = [some (.ref a), some (.int p), some (.int v2), some (.int v3), v4, v5]) ⟨_, _, none, none, Same.refl _, rfl⟩ (fun i σ H' _ h => by obtain ⟨_, _, _, _, e, _⟩ := h; exact SqL.of (e _ _ hc1)) ?_ ?_⟩
      · rintro i x σ H2 H3 hi ⟨v2, v3, v4, v5, e2, rfl⟩ ⟨Tp, y1, y2, rfl, hT, rfl, hy1, hy2⟩
        cases hy1
        obtain ⟨k, rfl⟩ := cut_int hy2
        walk_at "rd"
        refine ⟨.inr ⟨by decide, by decide⟩, ?_⟩
        walk_at "rd"
        refine .inl ⟨_, rfl, ?_⟩
        walk_at "rd"
        refine ⟨show (2147483399 : Int) ≠ 0 by decide, ?_⟩
        walk_at "rd"
        refine ⟨.inl ⟨by decide, by decide⟩, ?_⟩
        walk_at "rd"
        refine ⟨show (2147483647 : Int) ≠ 0 by decide, ?_⟩
        exact ⟨v2, _, _, _, Same.push e2 hT, rfl⟩
      · rintro σ H2 ⟨v2, v3, v4, v5, e2, rfl⟩
        walk_at "rd"
        refine ⟨⟨by decide, by decide, by decide⟩, ?_⟩
        walk_at "rd"
        have h3 : decide ((10 : Int) ^ Int.toNat 18 ≤ v2) = true ∨ decide ((10 : Int) ^ Int.toNat 18 ≤ v2) = false := by cases decide ((10 : Int) ^ Int.toNat 18 ≤ v2) <;> simp
        rcases h3 with h3 | h3 <;>
        · rw [h3]
          walk_at "rd"
          refine ⟨by show 3 ≤ sizeLine; decide, fun r hr => ?_⟩
          exact q _ r (Same.push (e1.trans e2) hr) (Same.free (e1.trans e2) hr) ⟨_, _, _, upd_same⟩
def spDrawn : Sp := fun vs H Q _ => ∃ (z : Addr) (many : Nat), vs = [.ref z, .int many] ∧ WS H z ∧ 0 < many ∧ many < 2 ^ 8000 ∧ ∀ H' d, FW z H H' → d < many → Q (.int (d : Nat)) H'
theorem sc_law_drawn : FnScope ["_law_well_here", "_law_many", "_law_digit"] ["_law_well_here", "_law_many"] (defScope (top 100)) := ⟨rfl, rfl, rfl, by decide +kernel, rfl, by decide +kernel, by decide +kernel⟩
theorem ok_law_drawn (T : Txt K mg) : Ok P w K mg base 1 (ga K "_law_drawn") ["_law_well_here", "_law_many"] (spDrawn) := by
  obtain ⟨fd, F⟩ := T.d_law_drawn
  refine ⟨_, F.ok sc_law_drawn (fun vs H Q E h => ?_) (fun cdv A outer s H vs Q E hr h => ?_), F.binds fun _ _ _ _ _ _ us hl => match us, hl with | [_, _], _ => rfl, F.kp⟩
  · obtain ⟨z, many, rfl, _⟩ := h
    rfl
  · obtain ⟨z, many, rfl, ⟨c, m, k, hw⟩, hm0, hm, q⟩ := h
    refine ⟨_, (pss_cons (ps_if (pt_cmpR op_gt (pe_ix ix_list (pv 0) pe_int (fun _ _ => rfl)) pe_int (nomark _)) (pss_cons (ps_set (i := 2) sc_law_drawn.nd rfl (Or.inl rfl) (pe_op op_modN (pe_callTy call_int1 (by rfl) T.b_int (by decide +kernel) (pa_cons (pe_ix ix_list (pv 0) pe_int (fun _ _ => rfl)) pa_nil)) (pv 1)))
      (pss_cons (ps_asg (pe_op op_fdivW (pe_ix ix_list (pv 0) pe_int (fun _ _ => rfl)) (pv 1)) (pg_sub (pv 0) pe_int set_list)) (pss_one (ps_ret (pv 2))))) pss_nil)
      (pss_cons (ps_asg (pe_op op_add (pe_ix ix_list (pv 0) pe_int (fun _ _ => rfl)) pe_int) (pg_sub (pv 0) pe_int set_list))
      (pss_cons (ps_asg (pe_op op_modN (pe_callTy call_int1 (by rfl) T.b_int (by decide +kernel) (pa_cons (pe_op op_add (pe_op op_add (pe_op op_mul (pe_ix ix_list (pv 0) pe_int (fun _ _ => rfl)) pe_int) (pe_op op_mul pe_int (pe_ix ix_list (pv 0) pe_int (fun _ _ => rfl)))) pe_int) pa_nil)) pe_int) (pg_sub (pv 0) pe_int set_list)) (pss_one (ps_ret (pe_op op_modN (pe_op op_fdivW (pe_op op_modN (pe_callTy call_int1 (by rfl) T.b_int (by decide +kernel) (pa_cons (pe_op op_mul (pe_ix ix_list (pv 0) pe_int (fun _ _ => rfl)) pe_int) pa_nil)) pe_int) pe_int) (pv 1))))))), ?_⟩
    have hsq : SqL K H z [.int c, .int m, .int k] := SqL.of hw
    walk_at "rd"
    have mz : (many : Int) ≠ 0 := by omega
    have fin : ∀ (x : Int) (H' : Hp), FW z H H' → Q (.int (x.fmod (many : Int))) H' := fun x H' f => by
      obtain ⟨d, hd, e⟩ := fmod_nat x hm0
      rw [e]
      exact q H' d f hd
    by_cases hc : 0 < c
    · rw [decide_eq_true hc]
      walk_at "rd"
      refine .inl ⟨_, rfl, ?_⟩
      obtain ⟨d, hd, e⟩ := fmod_nat c hm0
      walk_at "rd"
      refine ⟨mz, ?_⟩
      simp only [e]
      walk_at "rd"
      refine ⟨wide_div (b := 8000) (by omega) (nlt hm) (by decide) (by decide), ?_⟩
      walk_at "rd"
      exact q _ d ⟨Same.own drp_same drp_self, _, _, _, upd_same⟩ hd
    · rw [decide_eq_false hc]
      walk_at "rd"
      refine ⟨.inr ⟨by decide, by decide⟩, ?_⟩
      walk_at "rd"
      refine ⟨.inl ⟨by decide, by decide⟩, ?_⟩
      walk_at "rd"
      refine .inl ⟨_, rfl, ?_⟩
      walk_at "rd"
      refine ⟨show (2147483399 : Int) ≠ 0 by decide, ?_⟩
      walk_at "rd"
      refine ⟨z, _, 1, 1, rfl, rfl, upd_same, rfl, ?_⟩
      walk_at "rd"
      refine ⟨.inr ⟨by decide, by decide⟩, ?_⟩
      walk_at "rd"
      refine .inl ⟨_, rfl, ?_⟩
      walk_at "rd"
      refine ⟨show (2147483647 : Int) ≠ 0 by decide, ?_⟩
      walk_at "rd"
      refine ⟨wide_div (b := 8) (by decide) (by decide) (by decide) (by decide), ?_⟩
      walk_at "rd"
      refine ⟨mz, ?_⟩
      exact fin _ _ ⟨Same.own (Same.own drp_same drp_self) drp_self, _, _, _, upd_same⟩
end
end U
set_option maxHeartbeats 4100000
namespace U
open PySem L2 He
local macro_rules | `(tactic| walk_at "same") => `(tactic| first | (with_reducible assumption) | exact Same.refl _ | (refine Same.push ?_ (by assumption); walk_at "same") | (refine Same.own ?_ (by assumption); walk_at "same") | (refine Same.trans ?_ (by with_reducible assumption); walk_at "same"))
local macro_rules | `(tactic| walk_at "get") => `(tactic| first | assumption | exact upd_same | (refine get_push (by assumption) ?_; walk_at "get") | (refine get_ne (by assumption) ?_; walk_at "get") | (refine get_ne' (by assumption) ?_; walk_at "get") | (refine Same.get ?_ (by assumption); walk_at "same"))
local macro_rules | `(tactic| walk_at "has") => `(tactic| first | assumption | (refine Has.mono ?_ (by assumption); walk_at "same"))
local macro_rules | `(tactic| walk_at "sql") => `(tactic| first | assumption | exact SqL.of upd_same | exact SqL.of (by assumption) | (refine Same.seq ?_ (by assumption); walk_at "same") | (refine SqL.of ?_; walk_at "get"))
local macro_rules | `(tactic| walk_at "sqt") => `(tactic| first | assumption | exact SqT.of upd_same | exact SqT.of (by assumption) | (refine Same.tup ?_ (by assumption); walk_at "same") | (refine SqT.of ?_; walk_at "get"))
local macro_rules | `(tactic| walk_at "r1") => `(tactic| first | ((with_reducible refine ite_tt ?_ ?_); (focus exact rfl)) | ((with_reducible refine ite_ff ?_ ?_); (focus exact rfl)) | refine ⟨_, rfl, ?_⟩ | refine ⟨_, _, rfl, rfl, ?_⟩ | (refine ⟨rfl, ?_⟩) | refine ⟨(Int.natCast_nonneg _ : (0 : Int) ≤ _), ?_⟩ | refine ⟨_, _, rfl, ?_⟩ | refine ⟨_, _, _, rfl, ?_⟩ | (refine Has.ans (by walk_at "has") ?_) | refine ⟨_, _, _, _, rfl, rfl, (by walk_at "sql"), rfl, ?_⟩ | refine ⟨_, _, rfl, .inl (by walk_at "sql"), ?_⟩ | refine ⟨_, _, rfl, .inr (by walk_at "sqt"), ?_⟩ | refine ⟨_, _, _, _, rfl, rfl, (by walk_at "sqt"), rfl, ?_⟩ | refine ⟨_, _, rfl, (by walk_at "sqt"), rfl, ?_⟩ | refine ⟨_, _, _, _, rfl, (by walk_at "get"), (by assumption), (by assumption), (by walk_at "len"), ?_⟩ | refine ⟨_, _, _, _, _, rfl, (by walk_at "get"), (by assumption), (by assumption), (by walk_at "lk"), ?_⟩)
local macro_rules | `(tactic| walk_at "rd") => `(tactic| repeat walk_at "r1")
local macro_rules | `(tactic| walk_at "lk") => `(tactic| first | (with_reducible exact lk_hit) | (refine lk_miss (by decide +kernel) ?_; walk_at "lk") | rfl)
local macro_rules | `(tactic| walk_at "len") => `(tactic| (refine Nat.lt_of_le_of_lt (m := 60) ?_ (by decide); (repeat (refine len_put ?_)); exact Nat.zero_le _))
local macro_rules | `(tactic| walk_at "len9") => `(tactic| (refine Nat.le_trans (m := 60) ?_ (by decide); (repeat (refine len_put ?_)); exact Nat.zero_le _))
local macro_rules | `(tactic| walk_at "own") => `(tactic| first | assumption | (refine Same.own ?_ (by assumption); walk_at "own"))

section
variable {P : Program} {w : World} {base : Heap}
variable {K : PySem.W.Frag} {mg : Str → Option Value}
theorem FW.free {z r : Addr} {H H' : Hp} (f : FW z H H') (h : H' r = none) : H r = none := by
  cases e : H r with
  | none => rfl
  | some o =>
    have hz := f.ws.ne h
    rw [f.get hz e] at h
    cases h
def spOneOf (K : PySem.W.Frag) : Sp := fun vs H Q _ => ∃ (z a : Addr) (xs : List V), vs = [.ref z, .ref a] ∧ WS H z ∧ SqL K (drp z H) a xs ∧ 0 < xs.length ∧ xs.length ≤ 60 ∧ ∀ H' v, FW z H H' → v ∈ xs → Q v H'
theorem small60 {n : Nat} (h : n ≤ 60) : n < 2 ^ 8000 := Nat.lt_of_lt_of_le (show n < 2 ^ 6 by have : (2 : Nat) ^ 6 = 64 := rfl; omega) (UM.p2le (by decide))
theorem sc_law_one_of : FnScope ["_law_well_here", "_law_some"] ["_law_well_here", "_law_some"] (defScope (top 101)) := ⟨rfl, rfl, rfl, by decide +kernel, rfl, by decide +kernel, by decide +kernel⟩
theorem ok_law_one_of (T : Txt K mg) : Ok P w K mg base 2 (ga K "_law_one_of") ["_law_well_here", "_law_some"] (spOneOf K) := by
  obtain ⟨fd, F⟩ := T.d_law_one_of
  obtain ⟨_, G_law_drawn, b_law_drawn, k_law_drawn⟩ := ok_law_drawn (P := P) (w := w) (base := base) T
  refine ⟨_, F.ok sc_law_one_of (fun vs H Q E h => ?_) (fun cdv A outer s H vs Q E hr h => ?_), F.binds fun _ _ _ _ _ _ us hl => match us, hl with | [_, _], _ => rfl, F.kp⟩
  · obtain ⟨z, a, xs, rfl, _⟩ := h
    rfl
  · obtain ⟨z, a, xs, rfl, hw, ha, h0, h60, q⟩ := h
    refine ⟨_, (pss_one (ps_ret (pe_ix ix_list (pv 1) (pe_call G_law_drawn (hr.mono (by decide)) rfl T.g__law_drawn k_law_drawn b_law_drawn .nil pass0 (pa_cons (pv 0) (pa_cons (pe_callB call_len_seq (by rfl) T.b_len (by decide +kernel) (pa_cons (pv 1) pa_nil)) pa_nil))) (fun _ _ => rfl)))), ?_⟩
    have ha1 : SqL K H a xs := Same.seq drp_same ha
    walk_at "rd"
    refine ⟨hw, h0, small60 h60, fun H1 d f1 hd => ?_⟩
    walk_at "rd"
    refine ⟨_, _, _, _, rfl, rfl, Same.seq f1.same ha, atI_nat (List.getElem?_eq_getElem hd), ?_⟩
    exact q H1 _ f1 (List.getElem_mem hd)
def spPower : Sp := fun vs H Q _ => ∃ (b t : Nat), vs = [.int b, .int t] ∧ b < 2 ^ 64 ∧ t ≤ 1000 ∧ Q (.int (b ^ t : Nat)) H
theorem sc_law_power : FnScope ["_law_base", "_law_times", "_law_found", "_law_k"] ["_law_base", "_law_times"] (defScope (top 98)) := ⟨rfl, rfl, rfl, by decide +kernel, rfl, by decide +kernel, by decide +kernel⟩
theorem ok_law_power (T : Txt K mg) : Ok P w K mg base 1 (ga K "_law_power") ["_law_base", "_law_times"] (spPower) := by
  obtain ⟨fd, F⟩ := T.d_law_power
  refine ⟨_, F.ok sc_law_power (fun vs H Q E h => ?_) (fun cdv A outer s H vs Q E hr h => ?_), F.binds fun _ _ _ _ _ _ us hl => match us, hl with | [_, _], _ => rfl, F.kp⟩
  · obtain ⟨b, t, rfl, _⟩ := h
    rfl
  · obtain ⟨b, t, rfl, hb, ht, q⟩ := h
    refine ⟨_, (pss_cons (ps_set (i := 2) sc_law_power.nd rfl (Or.inl rfl) pe_int)
      (pss_cons (ps_for PassesOwn.never rfl (pi_rangeN rfl T.b_range (pa_cons (pv 1) pa_nil)) (pg_name (i := 3) sc_law_power.nd rfl (Or.inl rfl)) (pss_one (ps_set (i := 2) sc_law_power.nd rfl (Or.inl rfl) (pe_op op_mul (pv 2) (pv 0))))) (pss_one (ps_ret (pv 2))))), ?_⟩
    walk_at "rd"
    refine ⟨by omega, for_it (walk_rangeN (n := t)) (fun i σ H' => ∃ v : Option V, H' = H ∧ σ = [some (.int b), some (.int t), some (.int (b ^ i : Nat)), v]) ⟨none, rfl, rfl⟩ (fun _ _ _ _ _ => trivial) ?_ ?_⟩
    · rintro i x σ H1 H2 hi ⟨v, rfl, rfl⟩ ⟨rfl, rfl⟩
      walk_at "rd"
      refine ⟨.inr ⟨by omega, by omega⟩, ?_⟩
      have e : ((b ^ (i + 1) : Nat) : Int) = ((b ^ i : Nat) : Int) * (b : Int) := by rw [Nat.pow_succ, Int.natCast_mul]
      exact ⟨some (.int (i : Nat)), rfl, by rw [e]; rfl⟩
    · rintro σ H1 ⟨v, rfl, rfl⟩
      walk_at "rd"
      exact q
/-- a pair of day sets that a saying may have -/
structure PairOk (n : Nat) (p : UM.P) : Prop where
  c1 : p.1 < 2 ^ n
  b1 : p.2 < 2 ^ n
  d : p.1 &&& p.2 = 0
  ne : p.1 ||| p.2 ≠ 0
def pV (p : UM.P) : HO := .lst [.int (p.1 : Int), .int (p.2 : Int)]
theorem lt_of_sub {a b n : Nat} (h : UM.Sub a b) (hb : b < 2 ^ n) : a < 2 ^ n := by
  apply Nat.lt_pow_two_of_testBit
  intro i hi
  cases e : a.testBit i with
  | false => rfl
  | true =>
    have := h i e
    rw [Nat.testBit_lt_two_pow (Nat.lt_of_lt_of_le hb (Nat.pow_le_pow_right (by decide) hi))] at this
    cases this
theorem and_xor_sub {a b : Nat} (h : UM.Sub a b) : a &&& (b ^^^ a) = 0 := by
  apply Nat.eq_of_testBit_eq
  intro i
  rw [Nat.testBit_and, Nat.testBit_xor, Nat.zero_testBit]
  cases e : a.testBit i with
  | false => rfl
  | true => rw [h i e]; rfl
theorem or_xor_sub {a b : Nat} (h : UM.Sub a b) : a ||| (b ^^^ a) = b := by
  apply Nat.eq_of_testBit_eq
  intro i
  rw [Nat.testBit_or, Nat.testBit_xor]
  cases e : a.testBit i with
  | false => simp
  | true => rw [h i e]; rfl
def spPair (K : PySem.W.Frag) : Sp := fun vs H Q _ => ∃ (z l : Addr) (n : Nat) (lv : List Nat), vs = [.ref z, .int n, .ref l] ∧ WS H z ∧ SqL K (drp z H) l (nV lv) ∧ (lv.length = 0 ∨ lv.length = n) ∧ 0 < n ∧ n ≤ 16 ∧ ∀ H' r p, FW z H H' → H r = none → drp z H' r = some (pV p) → PairOk n p → Q (.ref r) H'
theorem sc_law_pair : FnScope ["_law_well_here", "_law_days", "_law_layers", "_law_full", "_law_where", "_law_confirm", "_law_low", "_law_normal", "_law_day"] ["_law_well_here", "_law_days", "_law_layers"] (defScope (top 102)) := ⟨rfl, rfl, rfl, by decide +kernel, rfl, by decide +kernel, by decide +kernel⟩
theorem ok_law_pair (T : Txt K mg) : Ok P w K mg base 2 (ga K "_law_pair") ["_law_well_here", "_law_days", "_law_layers"] (spPair K) := by
  obtain ⟨fd, F⟩ := T.d_law_pair
  obtain ⟨_, G_law_drawn, b_law_drawn, k_law_drawn⟩ := ok_law_drawn (P := P) (w := w) (base := base) T
  refine ⟨_, F.ok sc_law_pair (fun vs H Q E h => ?_) (fun cdv A outer s H vs Q E hr h => ?_), F.binds fun _ _ _ _ _ _ us hl => match us, hl with | [_, _, _], _ => rfl, F.kp⟩
  · obtain ⟨z, l, n, lv, rfl, _⟩ := h
    rfl
  · obtain ⟨z, l, n, lv, rfl, hw, hl, hlv, hn0, hn, q⟩ := h
    refine ⟨_, (pss_cons (ps_set (i := 3) sc_law_pair.nd rfl (Or.inl rfl) (pe_op op_sub (pe_op op_shl pe_int (pv 1)) pe_int))
      (pss_cons (ps_set (i := 4) sc_law_pair.nd rfl (Or.inr rfl) (pe_op op_add pe_int (pe_call G_law_drawn (hr.mono (by decide)) rfl T.g__law_drawn k_law_drawn b_law_drawn .nil pass0 (pa_cons (pv 0) (pa_cons (pv 3) pa_nil)))))
      (pss_cons (ps_set (i := 5) sc_law_pair.nd rfl (Or.inl rfl) (pe_op op_and (pe_call G_law_drawn (hr.mono (by decide)) rfl T.g__law_drawn k_law_drawn b_law_drawn .nil pass0 (pa_cons (pv 0) (pa_cons (pe_op op_add (pv 3) pe_int) pa_nil))) (pv 4)))
      (pss_cons (ps_if (PW.pt (pw_and (pt_cmpR (op_neD hr.units) (pv 2) (pe_lst pa_nil) (nomark _)) (pw_and1 (pt_cmpR op_gt (pe_call G_law_drawn (hr.mono (by decide)) rfl T.g__law_drawn k_law_drawn b_law_drawn .nil pass0 (pa_cons (pv 0) (pa_cons pe_int pa_nil))) pe_int (nomark _))))) (pss_cons (ps_set (i := 6) sc_law_pair.nd rfl (Or.inr rfl) (pe_callB (cr_min rfl) (by rfl) T.b_min (by decide +kernel) (pa_cons (pe_lc (own := [("_law_day", 8)]) rfl sc_law_pair.nd (pi_rangeN rfl T.b_range (pa_cons (pv 1) pa_nil)) (blkOk_by (own := [("_law_day", 8)]) (N := ["_law_well_here", "_law_days", "_law_layers", "_law_full", "_law_where", "_law_confirm", "_law_low", "_law_normal", "_law_day"]) (sc := defScope (top 102)) (by decide +kernel)) (fun _ _ _ _ _ => (pg_name (i := 8) sc_law_pair.nd rfl (Or.inl rfl))) (fun _ _ _ _ _ => pts_one (pt_cmpR op_eq (pe_op op_and (pe_op op_shr (pv 4) (pv 8)) pe_int) pe_int (nomark _))) (fun _ _ _ _ _ => (kix (K := K) (pv 2) (pv 8) (fun _ _ => rfl) rfl))) pa_nil)))
      (pss_cons (ps_set (i := 7) sc_law_pair.nd rfl (Or.inl rfl) (pe_callB (cr_sum rfl) (by rfl) T.b_sum (by decide +kernel) (pa_cons (pe_lc (own := [("_law_day", 8)]) rfl sc_law_pair.nd (pi_rangeN rfl T.b_range (pa_cons (pv 1) pa_nil)) (blkOk_by (own := [("_law_day", 8)]) (N := ["_law_well_here", "_law_days", "_law_layers", "_law_full", "_law_where", "_law_confirm", "_law_low", "_law_normal", "_law_day"]) (sc := defScope (top 102)) (by decide +kernel)) (fun _ _ _ _ _ => (pg_name (i := 8) sc_law_pair.nd rfl (Or.inl rfl))) (fun _ _ _ _ _ => pts_one (PW.pt (pw_and (pt_cmpR op_eq (pe_op op_and (pe_op op_shr (pv 4) (pv 8)) pe_int) pe_int (nomark _)) (pw_and1 (pt_cmpR op_eq (kix (K := K) (pv 2) (pv 8) (fun _ _ => rfl) rfl) (pv 6) (nomark _)))))) (fun _ _ _ _ _ => (pe_op op_shl pe_int (pv 8)))) pa_nil))) (pss_one (ps_set (i := 5) sc_law_pair.nd rfl (Or.inl rfl) (pe_op op_or (pv 7) (pe_op op_and (pv 5) (pe_call G_law_drawn (hr.mono (by decide)) rfl T.g__law_drawn k_law_drawn b_law_drawn .nil pass0 (pa_cons (pv 0) (pa_cons (pe_op op_add (pv 3) pe_int) pa_nil))))))))) pss_nil) (pss_one (ps_ret (pe_lst (pa_cons (pv 5) (pa_cons (pe_op op_xor (pv 4) (pv 5)) pa_nil))))))))), ?_⟩
    walk_at "rd"
    refine ⟨⟨Int.natCast_nonneg _, by omega, by decide⟩, ?_⟩
    simp only [shl_one]
    walk_at "rd"
    have p16 : 2 ^ n ≤ 65536 := Nat.pow_le_pow_right (n := 2) (by decide) hn
    have p2 : 2 ≤ 2 ^ n := Nat.pow_le_pow_right (n := 2) (i := 1) (by decide) hn0
    have ef : ((2 ^ n : Nat) : Int) - 1 = ((2 ^ n - 1 : Nat) : Int) := by omega
    have b8 : ∀ k, k ≤ 65536 → k < 2 ^ 8000 := fun k hk => Nat.lt_of_lt_of_le (show k < 2 ^ 17 by have : (2 : Nat) ^ 17 = 131072 := rfl; omega) (UM.p2le (by decide))
    simp only [ef]
    refine ⟨z, 2 ^ n - 1, rfl, hw, by omega, b8 _ (by omega), fun H1 d1 f1 hd1 => ?_⟩
    have e1 : (1 : Int) + (d1 : Int) = ((1 + d1 : Nat) : Int) := by omega
    walk_at "rd"
    simp only [e1]
    refine ⟨f1.ws, by omega, b8 _ (by omega), fun H2 d2 f2 hd2 => ?_⟩
    have f12 := f1.trans f2
    walk_at "rd"
    simp only [bit_and]
    have w0 : 1 + d1 ≠ 0 := by omega
    have w1 : 1 + d1 < 2 ^ n := by omega
    revert w0 w1
    generalize 1 + d1 = wh
    intro w0 w1
    have c1 : d2 &&& wh < 2 ^ n := Nat.and_lt_two_pow _ w1
    have csub : UM.Sub (d2 &&& wh) wh := fun i hi => by rw [Nat.testBit_and] at hi; exact (Bool.and_eq_true_iff.mp hi).2
    revert c1 csub
    generalize d2 &&& wh = cf
    intro c1 csub
    have fin : ∀ (H' : Hp) (cf : Nat), FW z H H' → UM.Sub cf wh → ∀ r, H' r = none → Q (.ref r) (upd H' r (.lst [.int (cf : Int), .int (Builtin.bitXor (wh : Int) (cf : Int))])) := fun H' cf f sub r hr => by
      rw [bit_xor]
      have hz := f.ws.ne hr
      refine q _ r (cf, wh ^^^ cf) (f.push hr) (f.free hr) (by rw [drp_ne hz.symm]; exact upd_same) ⟨?_, ?_, ?_, ?_⟩
      · exact lt_of_sub sub w1
      · exact Nat.xor_lt_two_pow w1 (lt_of_sub sub w1)
      · exact and_xor_sub sub
      · rw [or_xor_sub sub]
        exact w0
    walk_at "rd"
    refine ⟨by show 0 ≤ sizeLine; decide, fun eb heb => ne_empty ((Same.new heb).seq (Same.seq f12.same hl)) nV_flat (SqL.of upd_same) ?_⟩
    have f3 := f12.push heb (o := .lst [])
    revert f3
    generalize upd H2 eb (.lst []) = H3
    intro f3
    have ret : ∀ (H' : Hp) (cf : Nat), FW z H H' → UM.Sub cf wh → 2 ≤ sizeLine ∧ ∀ p, H' p = none → Q (.ref p) (upd H' p (.lst [.int (cf : Int), .int (Builtin.bitXor (wh : Int) (cf : Int))])) := fun H' cf f sub => ⟨by decide, fun r hr => fin H' cf f sub r hr⟩
    rcases hlv with h0 | hln
    · have : lv = [] := List.eq_nil_of_length_eq_zero h0
      subst this
      walk_at "rd"
      exact ret H3 cf f3 csub
    have hne : (nV lv).isEmpty = false := by
      cases lv with
      | nil => exact absurd hln (by show ¬ 0 = n; omega)
      | cons => rfl
    rw [hne]
    walk_at "rd"
    refine ⟨f3.ws, by decide, b8 _ (by decide), fun H4 d3 f4 hd3 => ?_⟩
    have f34 := f3.trans f4
    walk_at "rd"
    by_cases hd0 : 0 < d3
    rotate_left
    · have : decide ((0 : Int) < (d3 : Int)) = false := decide_eq_false (by omega)
      rw [this]
      walk_at "rd"
      exact ret H4 cf f34 csub
    have : decide ((0 : Int) < (d3 : Int)) = true := decide_eq_true (by omega)
    rw [this]
    walk_at "rd"
    have hl4 : SqL K H4 l (nV lv) := Same.seq f34.same hl
    refine ⟨by omega, fun D hD => lc_it (walk_rangeN (n := n)) (fun i H' => Same H4 H' ∧ ∃ acc : List Nat, H' D = some (.lst (nV acc)) ∧ acc.length ≤ i ∧ ∀ d, d < i → wh.testBit d = true → acc ≠ []) ⟨Same.new hD, [], upd_same, Nat.le_refl _, fun d h => by omega⟩ (fun _ _ _ _ => trivial) ?_ ?_⟩
    · rintro i x H5 H6 hi ⟨e5, acc, h5, hal, hne2⟩ ⟨rfl, rfl⟩
      walk_at "rd"
      simp only [bit_oneT]
      cases hb : wh.testBit i with
      | false =>
        walk_at "rd"
        exact ⟨e5, acc, h5, by omega, fun d hd hb2 => hne2 d (by rcases Nat.lt_or_eq_of_le (Nat.lt_succ_iff.mp hd) with h | h; exact h; subst h; rw [hb] at hb2; cases hb2) hb2⟩
      | true =>
        walk_at "rd"
        obtain ⟨v, hv⟩ : ∃ v, lv[i]? = some v := ⟨_, List.getElem?_eq_getElem (by omega)⟩
        refine ⟨_, _, _, _, rfl, rfl, e5.seq hl4, atI_nat (v := V.int (v : Int)) (by unfold nV; rw [List.getElem?_map, hv]; rfl), ?_⟩
        refine ⟨_, h5, by rw [nV_len]; exact Nat.lt_of_lt_of_le (by omega : acc.length < 17) (by decide), Same.own e5 hD, acc ++ [v], ?_, by rw [List.length_append]; show acc.length + 1 ≤ i + 1; omega, fun _ _ _ => by simp⟩
        rw [upd_same]
        unfold nV
        rw [List.map_append]
        rfl
    · rintro H5 ⟨e5, acc, h5, hal, hne2⟩
      have accn : acc ≠ [] := by
        obtain ⟨i, hi⟩ := Nat.exists_testBit_of_ne_zero w0
        exact hne2 i (UM.lt_of_tb w1 hi) hi
      walk_at "rd"
      refine ⟨D, acc.map fun (d : Nat) => (d : Int), rfl, SqL.of (by rw [List.map_map]; exact h5), by rw [List.length_map]; exact List.length_pos_iff.mpr accn, fun lo hlo _ => ?_⟩
      obtain ⟨lw, _, rfl⟩ := List.mem_map.mp hlo
      walk_at "rd"
      refine ⟨by omega, fun D2 hD2 => lc_it (walk_rangeN (n := n)) (fun i H' => Same H5 H' ∧ ∃ ds : List Nat, H' D2 = some (.lst (ds.map fun (d : Nat) => V.int ((2 ^ d : Nat) : Int))) ∧ ds.length ≤ i ∧ ds.Nodup ∧ ∀ d ∈ ds, d < i ∧ wh.testBit d = true) ⟨Same.new hD2, [], upd_same, Nat.le_refl _, List.nodup_nil, fun d h => by cases h⟩ (fun _ _ _ _ => trivial) ?_ ?_⟩
      · rintro i x H6 H7 hi ⟨e6, ds, h6, hdl, hnd, hds⟩ ⟨rfl, rfl⟩
        have skip : Same H5 H7 ∧ ∃ ds : List Nat, H7 D2 = some (.lst (ds.map fun (d : Nat) => V.int ((2 ^ d : Nat) : Int))) ∧ ds.length ≤ i + 1 ∧ ds.Nodup ∧ ∀ d ∈ ds, d < i + 1 ∧ wh.testBit d = true := ⟨e6, ds, h6, by omega, hnd, fun d h => ⟨by have := (hds d h).1; omega, (hds d h).2⟩⟩
        walk_at "rd"
        simp only [bit_oneT]
        cases hb : wh.testBit i with
        | false =>
          walk_at "rd"
          exact skip
        | true =>
          walk_at "rd"
          obtain ⟨v, hv⟩ : ∃ v, lv[i]? = some v := ⟨_, List.getElem?_eq_getElem (by omega)⟩
          refine ⟨_, _, _, _, rfl, rfl, (e5.trans e6).seq hl4, atI_nat (v := V.int (v : Int)) (by unfold nV; rw [List.getElem?_map, hv]; rfl), ?_⟩
          walk_at "rd"
          cases hq : decide (V.int (v : Int) = V.int (lw : Int)) with
          | false =>
            walk_at "rd"
            exact skip
          | true =>
            walk_at "rd"
            refine ⟨⟨Int.natCast_nonneg _, by omega, by decide⟩, ?_⟩
            simp only [shl_one]
            refine ⟨_, h6, by rw [List.length_map]; exact Nat.lt_of_lt_of_le (by omega : ds.length < 17) (by decide), Same.own e6 hD2, ds ++ [i], ?_, by rw [List.length_append]; show ds.length + 1 ≤ i + 1; omega, ?_, fun d hd => ?_⟩
            · rw [upd_same, List.map_append]
              rfl
            · rw [List.nodup_append]
              exact ⟨hnd, by simp, fun a ha b hb3 => by rw [List.mem_singleton.mp hb3]; have := (hds a ha).1; omega⟩
            · rcases List.mem_append.mp hd with h | h
              · exact ⟨by have := (hds d h).1; omega, (hds d h).2⟩
              · rw [List.mem_singleton.mp h]
                exact ⟨Nat.lt_succ_self _, hb⟩
      · rintro H6 ⟨e6, ds, h6, hdl, hnd, hds⟩
        walk_at "rd"
        refine ⟨D2, ds.map fun (d : Nat) => ((2 ^ d : Nat) : Int), rfl, SqL.of (by rw [List.map_map]; exact h6), ?_⟩
        rw [sum_pow]
        have f6 := f34.trans (FW.of f4.ws (e5.trans e6))
        have nsub : UM.Sub (UM.maskL ds) wh := fun i hi => (hds i ((UM.tb_maskL hnd i).mp hi)).2
        walk_at "rd"
        refine ⟨f6.ws, Nat.succ_pos _, b8 _ (by show 2 ^ n - 1 + 1 ≤ 65536; omega), fun H7 d7 f7 hd7 => ?_⟩
        walk_at "rd"
        simp only [bit_and, bit_or]
        refine ret H7 _ (f6.trans f7) fun i hi => ?_
        rw [Nat.testBit_or, Nat.testBit_and] at hi
        rcases Bool.or_eq_true_iff.mp hi with h | h
        · exact nsub i h
        · exact csub i (Bool.and_eq_true_iff.mp h).1
end
end U
set_option maxHeartbeats 4100000
namespace U
open PySem L2 He
local macro_rules | `(tactic| walk_at "same") => `(tactic| first | (with_reducible assumption) | exact Same.refl _ | (refine Same.push ?_ (by assumption); walk_at "same") | (refine Same.own ?_ (by assumption); walk_at "same") | (refine Same.trans ?_ (by with_reducible assumption); walk_at "same"))
local macro_rules | `(tactic| walk_at "get") => `(tactic| first | assumption | exact upd_same | (refine get_push (by assumption) ?_; walk_at "get") | (refine get_ne (by assumption) ?_; walk_at "get") | (refine get_ne' (by assumption) ?_; walk_at "get") | (refine Same.get ?_ (by assumption); walk_at "same"))
local macro_rules | `(tactic| walk_at "has") => `(tactic| first | assumption | (refine Has.mono ?_ (by assumption); walk_at "same"))
local macro_rules | `(tactic| walk_at "sql") => `(tactic| first | assumption | exact SqL.of upd_same | exact SqL.of (by assumption) | (refine Same.seq ?_ (by assumption); walk_at "same") | (refine SqL.of ?_; walk_at "get"))
local macro_rules | `(tactic| walk_at "sqt") => `(tactic| first | assumption | exact SqT.of upd_same | exact SqT.of (by assumption) | (refine Same.tup ?_ (by assumption); walk_at "same") | (refine SqT.of ?_; walk_at "get"))
local macro_rules | `(tactic| walk_at "r1") => `(tactic| first | ((with_reducible refine ite_tt ?_ ?_); (focus exact rfl)) | ((with_reducible refine ite_ff ?_ ?_); (focus exact rfl)) | refine ⟨_, rfl, ?_⟩ | refine ⟨_, _, rfl, rfl, ?_⟩ | (refine ⟨rfl, ?_⟩) | refine ⟨(Int.natCast_nonneg _ : (0 : Int) ≤ _), ?_⟩ | refine ⟨_, _, rfl, ?_⟩ | refine ⟨_, _, _, rfl, ?_⟩ | (refine Has.ans (by walk_at "has") ?_) | refine ⟨_, _, _, _, rfl, rfl, (by walk_at "sql"), rfl, ?_⟩ | refine ⟨_, _, rfl, .inl (by walk_at "sql"), ?_⟩ | refine ⟨_, _, rfl, .inr (by walk_at "sqt"), ?_⟩ | refine ⟨_, _, _, _, rfl, rfl, (by walk_at "sqt"), rfl, ?_⟩ | refine ⟨_, _, rfl, (by walk_at "sqt"), rfl, ?_⟩ | refine ⟨_, _, _, _, rfl, (by walk_at "get"), (by assumption), (by assumption), (by walk_at "len"), ?_⟩ | refine ⟨_, _, _, _, _, rfl, (by walk_at "get"), (by assumption), (by assumption), (by walk_at "lk"), ?_⟩)
local macro_rules | `(tactic| walk_at "rd") => `(tactic| repeat walk_at "r1")
local macro_rules | `(tactic| walk_at "lk") => `(tactic| first | (with_reducible exact lk_hit) | (refine lk_miss (by decide +kernel) ?_; walk_at "lk") | rfl)
local macro_rules | `(tactic| walk_at "len") => `(tactic| (refine Nat.lt_of_le_of_lt (m := 60) ?_ (by decide); (repeat (refine len_put ?_)); exact Nat.zero_le _))
local macro_rules | `(tactic| walk_at "len9") => `(tactic| (refine Nat.le_trans (m := 60) ?_ (by decide); (repeat (refine len_put ?_)); exact Nat.zero_le _))
local macro_rules | `(tactic| walk_at "own") => `(tactic| first | assumption | (refine Same.own ?_ (by assumption); walk_at "own"))

section
variable {P : Program} {w : World} {base : Heap}
variable {K : PySem.W.Frag} {mg : Str → Option Value}
/-- what is no list stands without the well -/
theorem get_drp {z a : Addr} {H : Hp} {o : HO} (hw : WS H z) (h : H a = some o) (ho : ∀ xs, o ≠ .lst xs) : drp z H a = some o := by
  obtain ⟨c, m, k, hz⟩ := hw
  rw [drp_ne (fun e => by subst e; rw [hz] at h; cases h; exact ho _ rfl)]
  exact h
theorem drp_upd {z a : Addr} {H : Hp} {o : HO} (h : z ≠ a) : drp z (upd H a o) = upd (drp z H) a o := by
  funext b
  unfold drp
  by_cases c : b = z
  · subst c
    rw [if_pos rfl, upd_ne h, if_pos rfl]
  · rw [if_neg c]
    by_cases d : b = a
    · subst d; rw [upd_same, upd_same]
    · rw [upd_ne d, upd_ne d, if_neg c]
/-- pairs in a row -/
def Prs (H : Hp) (xs : List V) (ps : List UM.P) : Prop := xs.length = ps.length ∧ ∀ (i : Nat) v, xs[i]? = some v → ∃ p a, ps[i]? = some p ∧ v = .ref a ∧ H a = some (pV p)
theorem Prs.mono {H H' : Hp} {xs : List V} {ps : List UM.P} (e : Same H H') (h : Prs H xs ps) : Prs H' xs ps :=
  ⟨h.1, fun i v hv => let ⟨f, a, h1, h2, h3⟩ := h.2 i v hv; ⟨f, a, h1, h2, e _ _ h3⟩⟩
theorem Prs.snoc {H : Hp} {xs : List V} {ps : List UM.P} {p : UM.P} {a : Addr} (h : Prs H xs ps) (ha : H a = some (pV p)) : Prs H (xs ++ [.ref a]) (ps ++ [p]) := by
  refine ⟨by simp [h.1], fun i v hv => ?_⟩
  by_cases c : i < xs.length
  · rw [List.getElem?_append_left c] at hv
    obtain ⟨r', a', h1, h2⟩ := h.2 i v hv
    exact ⟨r', a', by rw [List.getElem?_append_left (by rw [← h.1]; exact c)]; exact h1, h2⟩
  · have hi : i = xs.length := by
      have := (List.getElem?_eq_some_iff.mp hv).1
      simp at this
      omega
    subst hi
    simp at hv
    subst hv
    exact ⟨p, a, by rw [h.1]; simp, rfl, ha⟩
/-- the list at D grows; D is not one of the pairs -/
theorem Prs.put {H : Hp} {xs ys : List V} {ps : List UM.P} {D : Addr} (h : Prs H xs ps) (hd : ∀ v ∈ xs, v ≠ .ref D) : Prs (upd H D (.lst ys)) xs ps :=
  ⟨h.1, fun i v hv => let ⟨f, a, h1, h2, h3⟩ := h.2 i v hv; ⟨f, a, h1, h2, by rw [upd_ne (fun e => hd v (List.mem_of_getElem? hv) (by rw [h2, e]))]; exact h3⟩⟩
def spPairs (K : PySem.W.Frag) : Sp := fun vs H Q _ => ∃ (z : Addr) (n most : Nat), vs = [.ref z, .int n, .int most] ∧ WS H z ∧ 0 < n ∧ n ≤ 16 ∧ most ≤ 50 ∧ ∀ H' r xs ps, FW z H H' → drp z H' r = some (.lst xs) → Prs (drp z H') xs ps → (∀ p ∈ ps, PairOk n p) → ps.length ≤ most → Q (.ref r) H'
theorem sc_law_pairs : FnScope ["_law_well_here", "_law_days", "_law_most", "_law_layers", "_law_day", "_law_k"] ["_law_well_here", "_law_days", "_law_most"] (defScope (top 103)) := ⟨rfl, rfl, rfl, by decide +kernel, rfl, by decide +kernel, by decide +kernel⟩
theorem ok_law_pairs (T : Txt K mg) : Ok P w K mg base 3 (ga K "_law_pairs") ["_law_well_here", "_law_days", "_law_most"] (spPairs K) := by
  obtain ⟨fd, F⟩ := T.d_law_pairs
  obtain ⟨_, G_law_drawn, b_law_drawn, k_law_drawn⟩ := ok_law_drawn (P := P) (w := w) (base := base) T
  obtain ⟨_, G_law_pair, b_law_pair, k_law_pair⟩ := ok_law_pair (P := P) (w := w) (base := base) T
  refine ⟨_, F.ok sc_law_pairs (fun vs H Q E h => ?_) (fun cdv A outer s H vs Q E hr h => ?_), F.binds fun _ _ _ _ _ _ us hl => match us, hl with | [_, _, _], _ => rfl, F.kp⟩
  · obtain ⟨z, n, most, rfl, _⟩ := h
    rfl
  · obtain ⟨z, n, most, rfl, hw, hn0, hn, hm, q⟩ := h
    refine ⟨_, (pss_cons (ps_set (i := 3) sc_law_pairs.nd rfl (Or.inr rfl) (pe_ifExp (pt_cmpR op_gt (pe_call G_law_drawn (hr.mono (by decide)) rfl T.g__law_drawn k_law_drawn b_law_drawn .nil pass0 (pa_cons (pv 0) (pa_cons pe_int pa_nil))) pe_int (nomark _)) (pe_lc (own := [("_law_day", 4)]) rfl sc_law_pairs.nd (pi_rangeN rfl T.b_range (pa_cons (pv 1) pa_nil)) (blkOk_by (own := [("_law_day", 4)]) (N := ["_law_well_here", "_law_days", "_law_most", "_law_layers", "_law_day", "_law_k"]) (sc := defScope (top 103)) (by decide +kernel)) (fun _ _ _ _ _ => (pg_name (i := 4) sc_law_pairs.nd rfl (Or.inl rfl))) (fun _ _ _ _ _ => pts_nil) (fun _ _ _ _ _ => (pe_call G_law_drawn (hr.mono (by decide)) rfl T.g__law_drawn k_law_drawn b_law_drawn .nil pass0 (pa_cons (pv 0) (pa_cons pe_int pa_nil))))) (pe_lst pa_nil))) (pss_one (ps_ret (pe_lc (own := [("_law_k", 5)]) rfl sc_law_pairs.nd (pi_rangeN rfl T.b_range (pa_cons (pe_call G_law_drawn (hr.mono (by decide)) rfl T.g__law_drawn k_law_drawn b_law_drawn .nil pass0 (pa_cons (pv 0) (pa_cons (pe_op op_add (pv 2) pe_int) pa_nil))) pa_nil)) (blkOk_by (own := [("_law_k", 5)]) (N := ["_law_well_here", "_law_days", "_law_most", "_law_layers", "_law_day", "_law_k"]) (sc := defScope (top 103)) (by decide +kernel)) (fun _ _ _ _ _ => (pg_name (i := 5) sc_law_pairs.nd rfl (Or.inl rfl))) (fun _ _ _ _ _ => pts_nil) (fun _ _ _ _ _ => (pe_call G_law_pair (hr.mono (by decide)) rfl T.g__law_pair k_law_pair b_law_pair .nil pass0 (pa_cons (pv 0) (pa_cons (pv 1) (pa_cons (pv 3) pa_nil))))))))), ?_⟩
    walk_at "rd"
    refine ⟨hw, by decide, small60 (by decide), fun H1 d1 f1 hd1 => ?_⟩
    walk_at "rd"
    by_cases hd0 : 0 < d1
    · rw [decide_eq_true (show (0 : Int) < (d1 : Int) by omega)]
      walk_at "rd"
      refine ⟨by omega, fun L hL0 => lc_it (walk_rangeN (n := n)) (fun i H' => FW z H1 H' ∧ ∃ lv, H' L = some (.lst (nV lv)) ∧ lv.length = i) ⟨(FW.refl f1.ws).push hL0, [], upd_same, rfl⟩ (fun _ _ _ _ => trivial) ?_ ?_⟩
      · rintro i x H2 H3 hi ⟨f2, lv, h2, hl2⟩ ⟨rfl, rfl⟩
        walk_at "rd"
        refine ⟨f2.ws, by decide, small60 (by decide), fun H4 d4 f4 hd4 => ?_⟩
        have zL := f1.ws.ne hL0
        refine ⟨_, f4.get zL h2, by rw [nV_len]; exact Nat.lt_of_lt_of_le (by omega : lv.length < 17) (by decide), (f2.trans f4).put zL hL0, lv ++ [d4], ?_, by rw [List.length_append, hl2]; rfl⟩
        rw [upd_same]
        unfold nV
        rw [List.map_append]
        rfl
      rintro H2 ⟨f2', lv, h2, hl2⟩
      have f2 := f1.trans f2'
      have zL := f1.ws.ne hL0
      have hL : SqL K (drp z H2) L (nV lv) := SqL.of (by rw [drp_ne zL.symm]; exact h2)
      have hlv : lv.length = 0 ∨ lv.length = n := .inr hl2
      walk_at "rd"
      refine ⟨f2.ws, Nat.succ_pos _, small60 (by show most + 1 ≤ 60; omega), fun H3 d3 f3 hd3' => ?_⟩
      have hd3 : d3 < most + 1 := hd3'
      have f23 := f2.trans f3
      have hL3 : SqL K (drp z H3) L (nV lv) := Same.seq f3.dd hL
      walk_at "rd"
      refine ⟨by omega, fun D hD => lc_it (walk_rangeN (n := d3)) (fun i H' => FW z H3 H' ∧ ∃ acc ps, H' D = some (.lst acc) ∧ Prs (drp z H') acc ps ∧ (∀ v ∈ acc, v ≠ .ref D) ∧ ps.length = i ∧ ∀ p ∈ ps, PairOk n p) ⟨(FW.refl f3.ws).push hD, [], [], upd_same, ⟨rfl, fun i v hv => by cases hv⟩, (fun v hv => by cases hv), rfl, fun p hp => by cases hp⟩ (fun _ _ _ _ => trivial) ?_ ?_⟩
      · rintro i x H4 H5 hi ⟨f4, acc, ps, h4, hpr, hnD, hpl, hok⟩ ⟨rfl, rfl⟩
        walk_at "rd"
        refine ⟨z, L, n, lv, rfl, f4.ws, Same.seq f4.dd hL3, hlv, hn0, hn, fun H6 r p f6 hr0 hrp hp => ?_⟩
        have zD := f3.ws.ne hD
        have hD6 := f6.get zD h4
        have nrD : D ≠ r := ne_of_none h4 hr0
        refine ⟨acc, hD6, by rw [hpr.1, hpl]; exact Nat.lt_of_lt_of_le (by omega : i < 100) (by decide), (f4.trans f6).put zD hD, acc ++ [.ref r], ps ++ [p], upd_same, ?_, fun v hv => ?_, by rw [List.length_append, hpl]; rfl, fun p' hp' => ?_⟩
        · rw [drp_upd zD]
          exact ((hpr.mono f6.dd).snoc hrp).put fun v hv => by
            rcases List.mem_append.mp hv with h | h
            · exact hnD v h
            · rw [List.mem_singleton.mp h]
              intro e
              exact nrD (V.ref.inj e).symm
        · rcases List.mem_append.mp hv with h | h
          · exact hnD v h
          · rw [List.mem_singleton.mp h]
            intro e
            exact nrD (V.ref.inj e).symm
        · rcases List.mem_append.mp hp' with h | h
          · exact hok p' h
          · rw [List.mem_singleton.mp h]
            exact hp
      · rintro H4 ⟨f4, acc, ps, h4, hpr, hnD, hpl, hok⟩
        walk_at "rd"
        have zD := f3.ws.ne hD
        exact q H4 D acc ps (f23.trans f4) (by rw [drp_ne zD.symm]; exact h4) hpr hok (by omega)
    · rw [decide_eq_false (show ¬ (0 : Int) < (d1 : Int) by omega)]
      walk_at "rd"
      refine ⟨by show 0 ≤ sizeLine; decide, fun L hL0 => ?_⟩
      have f2 := f1.push hL0 (o := .lst [])
      have zL := f1.ws.ne hL0
      have hL : SqL K (drp z (upd H1 L (.lst []))) L (nV []) := SqL.of (by rw [drp_ne zL.symm]; exact upd_same)
      revert f2 hL
      generalize upd H1 L (.lst []) = H2
      generalize hlve : ([] : List Nat) = lv
      intro f2 hL
      have hlv : lv.length = 0 ∨ lv.length = n := .inl (by rw [← hlve]; rfl)
      walk_at "rd"
      refine ⟨f2.ws, Nat.succ_pos _, small60 (by show most + 1 ≤ 60; omega), fun H3 d3 f3 hd3' => ?_⟩
      have hd3 : d3 < most + 1 := hd3'
      have f23 := f2.trans f3
      have hL3 : SqL K (drp z H3) L (nV lv) := Same.seq f3.dd hL
      walk_at "rd"
      refine ⟨by omega, fun D hD => lc_it (walk_rangeN (n := d3)) (fun i H' => FW z H3 H' ∧ ∃ acc ps, H' D = some (.lst acc) ∧ Prs (drp z H') acc ps ∧ (∀ v ∈ acc, v ≠ .ref D) ∧ ps.length = i ∧ ∀ p ∈ ps, PairOk n p) ⟨(FW.refl f3.ws).push hD, [], [], upd_same, ⟨rfl, fun i v hv => by cases hv⟩, (fun v hv => by cases hv), rfl, fun p hp => by cases hp⟩ (fun _ _ _ _ => trivial) ?_ ?_⟩
      · rintro i x H4 H5 hi ⟨f4, acc, ps, h4, hpr, hnD, hpl, hok⟩ ⟨rfl, rfl⟩
        walk_at "rd"
        refine ⟨z, L, n, lv, rfl, f4.ws, Same.seq f4.dd hL3, hlv, hn0, hn, fun H6 r p f6 hr0 hrp hp => ?_⟩
        have zD := f3.ws.ne hD
        have hD6 := f6.get zD h4
        have nrD : D ≠ r := ne_of_none h4 hr0
        refine ⟨acc, hD6, by rw [hpr.1, hpl]; exact Nat.lt_of_lt_of_le (by omega : i < 100) (by decide), (f4.trans f6).put zD hD, acc ++ [.ref r], ps ++ [p], upd_same, ?_, fun v hv => ?_, by rw [List.length_append, hpl]; rfl, fun p' hp' => ?_⟩
        · rw [drp_upd zD]
          exact ((hpr.mono f6.dd).snoc hrp).put fun v hv => by
            rcases List.mem_append.mp hv with h | h
            · exact hnD v h
            · rw [List.mem_singleton.mp h]
              intro e
              exact nrD (V.ref.inj e).symm
        · rcases List.mem_append.mp hv with h | h
          · exact hnD v h
          · rw [List.mem_singleton.mp h]
            intro e
            exact nrD (V.ref.inj e).symm
        · rcases List.mem_append.mp hp' with h | h
          · exact hok p' h
          · rw [List.mem_singleton.mp h]
            exact hp
      · rintro H4 ⟨f4, acc, ps, h4, hpr, hnD, hpl, hok⟩
        walk_at "rd"
        have zD := f3.ws.ne hD
        exact q H4 D acc ps (f23.trans f4) (by rw [drp_ne zD.symm]; exact h4) hpr hok (by omega)
theorem sayP_then {n : Nat} {p : UM.P} (h : PairOk n p) (hn : n ≤ 16) (o : Nat) (ho : o < 2 ^ n) (hd : ∀ i, o.testBit i = true → (p.1 ||| p.2).testBit i = false) : SayP n p.1 p.2 (p.1 ||| o) := by
  refine ⟨h.c1, h.b1, Nat.or_lt_two_pow h.c1 ho, hn, h.d, ?_, ?_, h.ne⟩
  · apply Nat.eq_of_testBit_eq
    intro i
    have h1 := hd i
    have h2 := and_dis h.d i
    rw [Nat.testBit_or] at h1
    rw [Nat.testBit_and, Nat.testBit_or, Nat.testBit_or]
    cases ho2 : o.testBit i <;> cases hc : p.1.testBit i <;> cases hb : p.2.testBit i <;> simp_all
  · apply Nat.eq_of_testBit_eq
    intro i
    have h1 := hd i
    have h2 := and_dis h.d i
    rw [Nat.testBit_or] at h1
    rw [UM.tb_dif, Nat.testBit_or, Nat.testBit_or]
    cases ho2 : o.testBit i <;> cases hc : p.1.testBit i <;> cases hb : p.2.testBit i <;> simp_all
def spLSay (K : PySem.W.Frag) : Sp := fun vs H Q _ => ∃ (z pr : Addr) (n : Nat) (p : UM.P) (u : Bool), vs = [.ref z, .ref pr, .int n, .bl u] ∧ WS H z ∧ drp z H pr = some (pV p) ∧ PairOk n p ∧ n ≤ 16 ∧ ∀ H' r t, FW z H H' → SayAt K (drp z H') r p.1 p.2 t u → SayP n p.1 p.2 t → Q (.ref r) H'
theorem sc_law_saying : FnScope ["_law_well_here", "_law_pair_here", "_law_days", "_law_usual", "_law_outside", "_law_then"] ["_law_well_here", "_law_pair_here", "_law_days", "_law_usual"] (defScope (top 104)) := ⟨rfl, rfl, rfl, by decide +kernel, rfl, by decide +kernel, by decide +kernel⟩
theorem ok_law_saying (T : Txt K mg) : Ok P w K mg base 4 (ga K "_law_saying") ["_law_well_here", "_law_pair_here", "_law_days", "_law_usual"] (spLSay K) := by
  obtain ⟨fd, F⟩ := T.d_law_saying
  obtain ⟨_, G_law_drawn, b_law_drawn, k_law_drawn⟩ := ok_law_drawn (P := P) (w := w) (base := base) T
  obtain ⟨_, G_Saying_init, b_Saying_init, k_Saying_init⟩ := ok_Saying_init (P := P) (w := w) (base := base) T
  refine ⟨_, F.ok sc_law_saying (fun vs H Q E h => ?_) (fun cdv A outer s H vs Q E hr h => ?_), F.binds fun _ _ _ _ _ _ us hl => match us, hl with | [_, _, _, _], _ => rfl, F.kp⟩
  · obtain ⟨z, pr, n, p, u, rfl, _⟩ := h
    rfl
  · obtain ⟨z, pr, n, p, u, rfl, hw, hp, hP, hn, q⟩ := h
    refine ⟨_, (pss_cons (ps_set (i := 4) sc_law_saying.nd rfl (Or.inl rfl) (pe_op op_and (pe_op op_sub (pe_op op_shl pe_int (pv 2)) pe_int) (pe_un un_inv (pe_op op_or (pe_ix ix_list (pv 1) pe_int (fun _ _ => rfl)) (pe_ix ix_list (pv 1) pe_int (fun _ _ => rfl))))))
      (pss_cons (ps_set (i := 5) sc_law_saying.nd rfl (Or.inl rfl) (pe_ifExp (pt_cmpR op_eq (pe_call G_law_drawn (hr.mono (by decide)) rfl T.g__law_drawn k_law_drawn b_law_drawn .nil pass0 (pa_cons (pv 0) (pa_cons pe_int pa_nil))) pe_int (nomark _)) (pe_op op_or (pe_ix ix_list (pv 1) pe_int (fun _ _ => rfl)) (pe_op op_and (pv 4) (pe_call G_law_drawn (hr.mono (by decide)) rfl T.g__law_drawn k_law_drawn b_law_drawn .nil pass0 (pa_cons (pv 0) (pa_cons (pe_op op_shl pe_int (pv 2)) pa_nil))))) (pe_ix ix_list (pv 1) pe_int (fun _ _ => rfl)))) (pss_one (ps_ret (pe_make T.mk_Saying G_Saying_init (hr.mono (by decide)) rfl T.g_Saying b_Saying_init .nil pass0 (pa_cons (pe_op op_or (pe_ix ix_list (pv 1) pe_int (fun _ _ => rfl)) (pe_ix ix_list (pv 1) pe_int (fun _ _ => rfl))) (pa_cons (pv 5) (pa_cons (pv 3) pa_nil)))))))), ?_⟩
    have hp1 : SqL K H pr [.int (p.1 : Int), .int (p.2 : Int)] := SqL.of (drp_same _ _ hp)
    walk_at "rd"
    refine ⟨⟨Int.natCast_nonneg _, by omega, by decide⟩, ?_⟩
    simp only [shl_one]
    walk_at "rd"
    refine ⟨hw, by decide, small60 (by decide), fun H1 d1 f1 hd1 => ?_⟩
    have hpz1 : drp z H1 pr = some (pV p) := f1.dd _ _ hp
    have hp2 : SqL K H1 pr [.int (p.1 : Int), .int (p.2 : Int)] := SqL.of (drp_same _ _ hpz1)
    have p16 : 2 ^ n ≤ 65536 := Nat.pow_le_pow_right (n := 2) (by decide) hn
    have p1 : 1 ≤ 2 ^ n := Nat.one_le_two_pow
    have ef : ((2 ^ n : Nat) : Int) - 1 = ((2 ^ n - 1 : Nat) : Int) := by omega
    have fin : ∀ (H2 : Hp) (t : Nat), FW z H H2 → SayP n p.1 p.2 t → ∀ x dx, H2 x = none → H2 dx = none → dx ≠ x → spSayInit K [.ref x, .int ((p.1 ||| p.2 : Nat) : Int), .int t, .bl u] (upd (upd H2 dx (.own x)) x (.ins (ga K "Saying") dx [])) (fun v H' => v = .non ∧ Q (.ref x) H') E0 := fun H2 t f2 hS x dx nx ndx nex =>
      ⟨H2, x, dx, n, p.1, p.2, t, u, rfl, upd_same, Same.mk nx ndx, nx, hS, fun H3 e3 hs => ⟨rfl, q H3 x t (f2.trans (FW.of f2.ws e3)) (by
        obtain ⟨dx2, fs, h0, hh⟩ := hs
        exact ⟨dx2, fs, get_drp (f2.ws.mono e3) h0 (by intro xs z; cases z), hh⟩) hS⟩⟩
    walk_at "rd"
    by_cases hd0 : d1 = 0
    · subst hd0
      walk_at "rd"
      refine ⟨⟨Int.natCast_nonneg _, by omega, by decide⟩, ?_⟩
      simp only [shl_one]
      walk_at "rd"
      refine ⟨f1.ws, Nat.two_pow_pos n, Nat.lt_of_le_of_lt p16 (Nat.lt_of_lt_of_le (by decide : 65536 < 2 ^ 17) (UM.p2le (by decide))), fun H2 d2 f2 hd2 => ?_⟩
      have f12 := f1.trans f2
      have hp3 : SqL K H2 pr [.int (p.1 : Int), .int (p.2 : Int)] := Same.seq f2.same (SqL.of hpz1)
      simp only [ef, bit_or, bit_dif, bit_and]
      walk_at "rd"
      simp only [bit_and, bit_or]
      exact fin H2 _ f12 (sayP_then hP hn (UM.dif (2 ^ n - 1) (p.1 ||| p.2) &&& d2) (Nat.and_lt_two_pow _ hd2) (fun i hi => by
        rw [Nat.testBit_and, UM.tb_dif] at hi
        cases h : (p.1 ||| p.2).testBit i with
        | false => rfl
        | true => rw [h] at hi; simp at hi))
    · rw [vint_ne (show (d1 : Int) ≠ 0 by omega)]
      walk_at "rd"
      simp only [bit_or]
      have h0 := sayP_then hP hn 0 (Nat.two_pow_pos n) (fun i hi => by rw [Nat.zero_testBit] at hi; cases hi)
      rw [Nat.or_zero] at h0
      exact fin H1 p.1 f1 h0
end
end U
set_option maxHeartbeats 4100000
namespace U
open PySem L2 He
local macro_rules | `(tactic| walk_at "same") => `(tactic| first | (with_reducible assumption) | exact Same.refl _ | (refine Same.push ?_ (by assumption); walk_at "same") | (refine Same.own ?_ (by assumption); walk_at "same") | (refine Same.trans ?_ (by with_reducible assumption); walk_at "same"))
local macro_rules | `(tactic| walk_at "get") => `(tactic| first | assumption | exact upd_same | (refine get_push (by assumption) ?_; walk_at "get") | (refine get_ne (by assumption) ?_; walk_at "get") | (refine get_ne' (by assumption) ?_; walk_at "get") | (refine Same.get ?_ (by assumption); walk_at "same"))
local macro_rules | `(tactic| walk_at "has") => `(tactic| first | assumption | (refine Has.mono ?_ (by assumption); walk_at "same"))
local macro_rules | `(tactic| walk_at "sql") => `(tactic| first | assumption | exact SqL.of upd_same | exact SqL.of (by assumption) | (refine Same.seq ?_ (by assumption); walk_at "same") | (refine SqL.of ?_; walk_at "get"))
local macro_rules | `(tactic| walk_at "sqt") => `(tactic| first | assumption | exact SqT.of upd_same | exact SqT.of (by assumption) | (refine Same.tup ?_ (by assumption); walk_at "same") | (refine SqT.of ?_; walk_at "get"))
local macro_rules | `(tactic| walk_at "r1") => `(tactic| first | ((with_reducible refine ite_tt ?_ ?_); (focus exact rfl)) | ((with_reducible refine ite_ff ?_ ?_); (focus exact rfl)) | refine ⟨_, rfl, ?_⟩ | refine ⟨_, _, rfl, rfl, ?_⟩ | (refine ⟨rfl, ?_⟩) | refine ⟨(Int.natCast_nonneg _ : (0 : Int) ≤ _), ?_⟩ | refine ⟨_, _, rfl, ?_⟩ | refine ⟨_, _, _, rfl, ?_⟩ | (refine Has.ans (by walk_at "has") ?_) | refine ⟨_, _, _, _, rfl, rfl, (by walk_at "sql"), rfl, ?_⟩ | refine ⟨_, _, rfl, .inl (by walk_at "sql"), ?_⟩ | refine ⟨_, _, rfl, .inr (by walk_at "sqt"), ?_⟩ | refine ⟨_, _, _, _, rfl, rfl, (by walk_at "sqt"), rfl, ?_⟩ | refine ⟨_, _, rfl, (by walk_at "sqt"), rfl, ?_⟩ | refine ⟨_, _, _, _, rfl, (by walk_at "get"), (by assumption), (by assumption), (by walk_at "len"), ?_⟩ | refine ⟨_, _, _, _, _, rfl, (by walk_at "get"), (by assumption), (by assumption), (by walk_at "lk"), ?_⟩)
local macro_rules | `(tactic| walk_at "rd") => `(tactic| repeat walk_at "r1")
local macro_rules | `(tactic| walk_at "lk") => `(tactic| first | (with_reducible exact lk_hit) | (refine lk_miss (by decide +kernel) ?_; walk_at "lk") | rfl)
local macro_rules | `(tactic| walk_at "len") => `(tactic| (refine Nat.lt_of_le_of_lt (m := 60) ?_ (by decide); (repeat (refine len_put ?_)); exact Nat.zero_le _))
local macro_rules | `(tactic| walk_at "len9") => `(tactic| (refine Nat.le_trans (m := 60) ?_ (by decide); (repeat (refine len_put ?_)); exact Nat.zero_le _))
local macro_rules | `(tactic| walk_at "own") => `(tactic| first | assumption | (refine Same.own ?_ (by assumption); walk_at "own"))

section
variable {P : Program} {w : World} {base : Heap}
variable {K : PySem.W.Frag} {mg : Str → Option Value}
def spLRatio : Sp := fun vs H Q _ => ∃ (t u : Nat), vs = [.int t, .int u] ∧ 0 < u ∧ u < 2 ^ 8000 ∧ ∀ r, H r = none → Q (.ref r) (upd H r (fV (UM.norm t u)))
theorem sc_law_ratio : FnScope ["_law_top", "_law_bottom", "_law_one", "_law_other"] ["_law_top", "_law_bottom"] (defScope (top 106)) := ⟨rfl, rfl, rfl, by decide +kernel, rfl, by decide +kernel, by decide +kernel⟩
theorem ok_law_ratio (T : Txt K mg) : Ok P w K mg base 1 (ga K "_law_ratio") ["_law_top", "_law_bottom"] (spLRatio) := by
  obtain ⟨fd, F⟩ := T.d_law_ratio
  refine ⟨_, F.ok sc_law_ratio (fun vs H Q E h => ?_) (fun cdv A outer s H vs Q E hr h => ?_), F.binds fun _ _ _ _ _ _ us hl => match us, hl with | [_, _], _ => rfl, F.kp⟩
  · obtain ⟨t, u, rfl, _⟩ := h
    rfl
  · obtain ⟨t, u, rfl, hu0, hu, q⟩ := h
    refine ⟨_, (pss_cons (ps_par (i := 2) (j := 3) (by rfl) sc_law_ratio.nd rfl rfl (by decide) rfl rfl (pa_cons (pv 0) (pa_cons (pv 1) pa_nil)) (by rfl))
      (pss_cons (ps_while PassesOwn.never (pt_cmpR op_gt (pv 3) pe_int (nomark _)) (pss_one (ps_par (i := 2) (j := 3) (by rfl) sc_law_ratio.nd rfl rfl (by decide) rfl rfl (pa_cons (pv 3) (pa_cons (pe_op op_modN (pe_callTy call_int1 (by rfl) T.b_int (by decide +kernel) (pa_cons (pv 2) pa_nil)) (pv 3)) pa_nil)) (by rfl)))) (pss_one (ps_ret (pe_tup (pa_cons (pe_op op_fdivW (pv 0) (pv 2)) (pa_cons (pe_op op_fdivW (pv 1) (pv 2)) pa_nil))))))), ?_⟩
    walk_at "rd"
    refine ⟨fun m σ H' => ∃ a b : Nat, H' = H ∧ σ = [some (.int t), some (.int u), some (.int a), some (.int b)] ∧ Nat.gcd a b = Nat.gcd t u ∧ m = b, ⟨u, t, u, rfl, rfl, rfl, rfl⟩, ?_⟩
    rintro m σ H' ⟨a, b, rfl, rfl, hg, rfl⟩
    walk_at "rd"
    by_cases hb : 0 < m
    · rw [decide_eq_true (show (0 : Int) < (m : Int) by omega)]
      walk_at "rd"
      refine ⟨_, fun _ _ z => z, ?_⟩
      walk_at "rd"
      refine .inl ⟨_, rfl, ?_⟩
      walk_at "rd"
      refine ⟨by omega, ?_⟩
      have e : (a : Int).fmod (m : Int) = ((a % m : Nat) : Int) := by rw [Int.fmod_eq_emod_of_nonneg _ (by omega)]; rfl
      simp only [e]
      walk_at "rd"
      refine ⟨a % m, Nat.mod_lt _ hb, m, a % m, rfl, rfl, ?_, rfl⟩
      rw [← hg, Nat.gcd_comm m (a % m), ← Nat.gcd_rec, Nat.gcd_comm]
    · have : m = 0 := by omega
      subst this
      walk_at "rd"
      rw [Nat.gcd_zero_right] at hg
      have ha : 0 < a := by rw [hg]; exact Nat.gcd_pos_of_pos_right _ hu0
      have hau : a < 2 ^ 8000 := by rw [hg]; exact Nat.lt_of_le_of_lt (Nat.gcd_le_right _ hu0) hu
      refine ⟨wide_div (by omega) (nlt hau) (by decide) (by decide), ?_⟩
      walk_at "rd"
      refine ⟨wide_div (by omega) (nlt hau) (by decide) (by decide), ?_⟩
      walk_at "rd"
      refine ⟨by show 2 ≤ sizeLine; decide, fun r hr => ?_⟩
      have := q r hr
      unfold fV UM.norm at this
      rw [← hg] at this
      exact this
def spLWeight (K : PySem.W.Frag) : Sp := fun vs H Q _ => ∃ (l : Addr) (ns : List Nat) (m : Nat), vs = [.ref l, .int m] ∧ SqL K H l (nV ns) ∧ ns.length ≤ 16 ∧ ∀ H', Same H H' → Q (.int (UM.wt ns m : Nat)) H'
theorem sc_law_weight : FnScope ["_law_numbers_here", "_law_mask", "_law_day", "_law_number"] ["_law_numbers_here", "_law_mask"] (defScope (top 107)) := ⟨rfl, rfl, rfl, by decide +kernel, rfl, by decide +kernel, by decide +kernel⟩
theorem ok_law_weight (T : Txt K mg) : Ok P w K mg base 1 (ga K "_law_weight") ["_law_numbers_here", "_law_mask"] (spLWeight K) := by
  obtain ⟨fd, F⟩ := T.d_law_weight
  refine ⟨_, F.ok sc_law_weight (fun vs H Q E h => ?_) (fun cdv A outer s H vs Q E hr h => ?_), F.binds fun _ _ _ _ _ _ us hl => match us, hl with | [_, _], _ => rfl, F.kp⟩
  · obtain ⟨l, ns, m, rfl, _⟩ := h
    rfl
  · obtain ⟨l, ns, m, rfl, hl, hn, q⟩ := h
    refine ⟨_, (pss_one (ps_ret (pe_callB (cr_sum rfl) (by rfl) T.b_sum (by decide +kernel) (pa_cons (pe_lc (own := [("_law_day", 2), ("_law_number", 3)]) rfl sc_law_weight.nd (pi_enum (by rfl) T.b_enumerate (pa_cons (pv 0) pa_nil)) (blkOk_by (own := [("_law_day", 2), ("_law_number", 3)]) (N := ["_law_numbers_here", "_law_mask", "_law_day", "_law_number"]) (sc := defScope (top 107)) (by decide +kernel)) (fun _ _ _ _ _ => (kgtup (K := K) (n := 2) rfl (pgs_cons (pg_name (i := 2) sc_law_weight.nd rfl (Or.inl rfl)) (pgs_cons (pg_name (i := 3) sc_law_weight.nd rfl (Or.inl rfl)) pgs_nil)) rfl)) (fun _ _ _ _ _ => pts_one (pt_cmpR op_eq (pe_op op_and (pe_op op_shr (pv 1) (pv 2)) pe_int) pe_int (nomark _))) (fun _ _ _ _ _ => (pv 3))) pa_nil)))), ?_⟩
    walk_at "rd"
    refine ⟨l, _, rfl, hl, fun D hD => lc_it (walk_enum (K := K) (a := l) (xs := nV ns)) (fun i H' => Same H H' ∧ H' D = some (.lst (nV (UM.pickL (ns.take i) m)))) ⟨Same.new hD, upd_same⟩ (fun i H' _ h => h.1.seq hl) ?_ ?_⟩
    · rintro i x H1 H2 hi ⟨e1, h1⟩ ⟨Tp, y1, y2, rfl, hT, rfl, hy1, hy2⟩
      cases hy1
      rw [nV_len] at hi
      obtain ⟨v, hv, rfl⟩ := get_map hy2
      have e2 : Same H (upd H1 Tp (.tup [.int (i : Nat), .int (v : Nat)])) := Same.push e1 hT
      have nD : D ≠ Tp := ne_of_none h1 hT
      have ep : UM.pickL (ns.take (i + 1)) m = UM.pickL (ns.take i) m ++ (if m.testBit i = true then some v else none).toList := by
        unfold UM.pickL
        rw [UM.fm_succ _ hv]
      walk_at "rd"
      simp only [bit_oneT]
      cases hb : m.testBit i with
      | true =>
        rw [hb] at ep
        walk_at "rd"
        refine ⟨_, by rw [upd_ne nD]; exact h1, ?_, Same.own e2 hD, ?_⟩
        · rw [nV_len]
          exact Nat.lt_of_le_of_lt (UM.fm_len_take _ ns i) (Nat.lt_of_lt_of_le (by omega : i < 16) (by decide))
        · rw [upd_same, ep]
          unfold nV
          rw [List.map_append]
          rfl
      | false =>
        rw [hb] at ep
        walk_at "rd"
        refine ⟨e2, ?_⟩
        rw [upd_ne nD, h1, ep]
        simp
    · rintro H1 ⟨e1, h1⟩
      rw [nV_len, List.take_length] at h1
      walk_at "rd"
      refine ⟨D, (UM.pickL ns m).map fun (d : Nat) => (d : Int), rfl, SqL.of (by rw [List.map_map]; exact h1), ?_⟩
      rw [sum_nat, UM.pickL_sum]
      exact q H1 e1
def spLDoubt (K : PySem.W.Frag) : Sp := fun vs H Q _ => ∃ (l pr : Addr) (ns : List Nat) (p : UM.P), vs = [.ref l, .ref pr] ∧ SqL K H l (nV ns) ∧ UM.SmallW ns ∧ H pr = some (pV p) ∧ ∀ H' r, Same H H' → H' r = some (fV (UM.dbt ns p)) → Q (.ref r) H'
theorem sc_law_doubt : FnScope ["_law_numbers_here", "_law_pair_here", "_law_broken", "_law_total"] ["_law_numbers_here", "_law_pair_here"] (defScope (top 108)) := ⟨rfl, rfl, rfl, by decide +kernel, rfl, by decide +kernel, by decide +kernel⟩
theorem ok_law_doubt (T : Txt K mg) : Ok P w K mg base 2 (ga K "_law_doubt") ["_law_numbers_here", "_law_pair_here"] (spLDoubt K) := by
  obtain ⟨fd, F⟩ := T.d_law_doubt
  obtain ⟨_, G_law_weight, b_law_weight, k_law_weight⟩ := ok_law_weight (P := P) (w := w) (base := base) T
  obtain ⟨_, G_law_ratio, b_law_ratio, k_law_ratio⟩ := ok_law_ratio (P := P) (w := w) (base := base) T
  refine ⟨_, F.ok sc_law_doubt (fun vs H Q E h => ?_) (fun cdv A outer s H vs Q E hr h => ?_), F.binds fun _ _ _ _ _ _ us hl => match us, hl with | [_, _], _ => rfl, F.kp⟩
  · obtain ⟨l, pr, ns, p, rfl, _⟩ := h
    rfl
  · obtain ⟨l, pr, ns, p, rfl, hl, hS, hp, q⟩ := h
    refine ⟨_, (pss_cons (ps_set (i := 2) sc_law_doubt.nd rfl (Or.inl rfl) (pe_call G_law_weight (hr.mono (by decide)) rfl T.g__law_weight k_law_weight b_law_weight .nil pass0 (pa_cons (pv 0) (pa_cons (pe_ix ix_list (pv 1) pe_int (fun _ _ => rfl)) pa_nil))))
      (pss_cons (ps_set (i := 3) sc_law_doubt.nd rfl (Or.inl rfl) (pe_op op_add (pv 2) (pe_call G_law_weight (hr.mono (by decide)) rfl T.g__law_weight k_law_weight b_law_weight .nil pass0 (pa_cons (pv 0) (pa_cons (pe_ix ix_list (pv 1) pe_int (fun _ _ => rfl)) pa_nil))))) (pss_one (ps_ret (pe_ifExp (pt_cmpR op_gt (pv 3) pe_int (nomark _)) (pe_call G_law_ratio (hr.mono (by decide)) rfl T.g__law_ratio k_law_ratio b_law_ratio .nil pass0 (pa_cons (pv 2) (pa_cons (pv 3) pa_nil))) (pe_tup (pa_cons pe_int (pa_cons pe_int pa_nil)))))))), ?_⟩
    have hp1 : SqL K H pr [.int (p.1 : Int), .int (p.2 : Int)] := SqL.of hp
    walk_at "rd"
    refine ⟨l, ns, p.2, rfl, hl, hS.1, fun H1 e1 => ?_⟩
    walk_at "rd"
    refine ⟨l, ns, p.1, rfl, e1.seq hl, hS.1, fun H2 e2 => ?_⟩
    have e12 := e1.trans e2
    walk_at "rd"
    have ew : ((UM.wt ns p.2 : Nat) : Int) + ((UM.wt ns p.1 : Nat) : Int) = ((UM.wt ns p.2 + UM.wt ns p.1 : Nat) : Int) := (Int.natCast_add _ _).symm
    by_cases h0 : UM.wt ns p.2 + UM.wt ns p.1 = 0
    · have ed : UM.dbt ns p = (0, 1) := by unfold UM.dbt; rw [if_pos h0]
      rw [decide_eq_false (show ¬ (0 : Int) < ((UM.wt ns p.2 : Nat) : Int) + ((UM.wt ns p.1 : Nat) : Int) by omega)]
      walk_at "rd"
      refine ⟨by show 2 ≤ sizeLine; decide, fun r hr => ?_⟩
      exact q _ r (Same.push e12 hr) (by rw [upd_same, ed]; rfl)
    · have ed : UM.dbt ns p = UM.norm (UM.wt ns p.2) (UM.wt ns p.2 + UM.wt ns p.1) := by unfold UM.dbt; rw [if_neg h0]
      rw [decide_eq_true (show (0 : Int) < ((UM.wt ns p.2 : Nat) : Int) + ((UM.wt ns p.1 : Nat) : Int) by omega)]
      walk_at "rd"
      simp only [ew]
      have b1 := hS.wt p.1
      have b2 := hS.wt p.2
      refine ⟨Nat.pos_of_ne_zero h0, ?_, fun r hr => ?_⟩
      · refine Nat.lt_of_le_of_lt (Nat.add_le_add b2 b1) ?_
        rw [← Nat.two_mul, ← Nat.pow_succ']
        exact UM.p2lt (by decide)
      · exact q _ r (Same.push e12 hr) (by rw [upd_same, ed])
def spLAbove (K : PySem.W.Frag) : Sp := fun vs H Q _ => ∃ (p r : Addr) (f g : UM.F), vs = [.ref p, .ref r] ∧ H p = some (fV f) ∧ H r = some (fV g) ∧ (f.1 < 2 ^ 8000 ∧ f.2 < 2 ^ 8000 ∧ g.1 < 2 ^ 8000 ∧ g.2 < 2 ^ 8000) ∧ Q (.bl (UM.above f g)) H
theorem sc_law_above : FnScope ["_law_one", "_law_other"] ["_law_one", "_law_other"] (defScope (top 110)) := ⟨rfl, rfl, rfl, by decide +kernel, rfl, by decide +kernel, by decide +kernel⟩
theorem ok_law_above (T : Txt K mg) : Ok P w K mg base 1 (ga K "_law_above") ["_law_one", "_law_other"] (spLAbove K) := by
  obtain ⟨fd, F⟩ := T.d_law_above
  refine ⟨_, F.ok sc_law_above (fun vs H Q E h => ?_) (fun cdv A outer s H vs Q E hr h => ?_), F.binds fun _ _ _ _ _ _ us hl => match us, hl with | [_, _], _ => rfl, F.kp⟩
  · obtain ⟨p, r, f, g, rfl, _⟩ := h
    rfl
  · obtain ⟨p, r, f, g, rfl, hp, hr1, ⟨z1, z2, z3, z4⟩, q⟩ := h
    refine ⟨_, (pss_one (ps_ret (pe_cmpR op_gt (pe_op op_mulW (pe_ix ix_tup (pv 0) pe_int (fun _ _ => rfl)) (pe_ix ix_tup (pv 1) pe_int (fun _ _ => rfl))) (pe_op op_mulW (pe_ix ix_tup (pv 1) pe_int (fun _ _ => rfl)) (pe_ix ix_tup (pv 0) pe_int (fun _ _ => rfl))) (nomark _)))), ?_⟩
    have s1 : SqT K H p [.int (f.1 : Int), .int (f.2 : Int)] := SqT.of hp
    have s2 : SqT K H r [.int (g.1 : Int), .int (g.2 : Int)] := SqT.of hr1
    walk_at "rd"
    refine ⟨wide_mul (nlt z1) (nlt z4) (by decide) (by decide) (by decide), ?_⟩
    walk_at "rd"
    refine ⟨wide_mul (nlt z3) (nlt z2) (by decide) (by decide) (by decide), ?_⟩
    walk_at "rd"
    have e : decide (((g.1 : Nat) : Int) * (f.2 : Int) < (f.1 : Int) * (g.2 : Int)) = UM.above f g := by
      unfold UM.above
      rw [decide_eq_decide]
      rw [← Int.natCast_mul, ← Int.natCast_mul, Int.ofNat_lt]
    show Q (.bl (decide (((g.1 : Nat) : Int) * (f.2 : Int) < (f.1 : Int) * (g.2 : Int)))) H
    rw [e]
    exact q
def spLSum (K : PySem.W.Frag) : Sp := fun vs H Q _ => ∃ (l pl : Addr) (ns : List Nat) (xs : List V) (ps : List UM.P), vs = [.ref l, .ref pl] ∧ SqL K H l (nV ns) ∧ UM.SmallW ns ∧ SqL K H pl xs ∧ Prs H xs ps ∧ ps.length ≤ 12 ∧ ∀ H' r, Same H H' → H' r = some (fV (UM.sumF ns ps)) → Q (.ref r) H'
theorem sc_law_sum : FnScope ["_law_numbers_here", "_law_pairs_here", "_law_total", "_law_pair_here", "_law_one"] ["_law_numbers_here", "_law_pairs_here"] (defScope (top 111)) := ⟨rfl, rfl, rfl, by decide +kernel, rfl, by decide +kernel, by decide +kernel⟩
theorem ok_law_sum (T : Txt K mg) : Ok P w K mg base 3 (ga K "_law_sum") ["_law_numbers_here", "_law_pairs_here"] (spLSum K) := by
  obtain ⟨fd, F⟩ := T.d_law_sum
  obtain ⟨_, G_law_doubt, b_law_doubt, k_law_doubt⟩ := ok_law_doubt (P := P) (w := w) (base := base) T
  obtain ⟨_, G_law_ratio, b_law_ratio, k_law_ratio⟩ := ok_law_ratio (P := P) (w := w) (base := base) T
  refine ⟨_, F.ok sc_law_sum (fun vs H Q E h => ?_) (fun cdv A outer s H vs Q E hr h => ?_), F.binds fun _ _ _ _ _ _ us hl => match us, hl with | [_, _], _ => rfl, F.kp⟩
  · obtain ⟨l, pl, ns, xs, ps, rfl, _⟩ := h
    rfl
  · obtain ⟨l, pl, ns, xs, ps, rfl, hl, hS, hpl, hpr, h12, q⟩ := h
    refine ⟨_, (pss_cons (ps_set (i := 2) sc_law_sum.nd rfl (Or.inl rfl) (pe_tup (pa_cons pe_int (pa_cons pe_int pa_nil))))
      (pss_cons (ps_for PassesOwn.never rfl (pi_list (pv 1)) (pg_name (i := 3) sc_law_sum.nd rfl (Or.inl rfl)) (pss_cons (ps_set (i := 4) sc_law_sum.nd rfl (Or.inl rfl) (pe_call G_law_doubt (hr.mono (by decide)) rfl T.g__law_doubt k_law_doubt b_law_doubt .nil pass0 (pa_cons (pv 0) (pa_cons (pv 3) pa_nil)))) (pss_one (ps_set (i := 2) sc_law_sum.nd rfl (Or.inl rfl) (pe_call G_law_ratio (hr.mono (by decide)) rfl T.g__law_ratio k_law_ratio b_law_ratio .nil pass0 (pa_cons (pe_op op_add (pe_op op_mulW (pe_ix ix_tup (pv 4) pe_int (fun _ _ => rfl)) (pe_ix ix_tup (pv 2) pe_int (fun _ _ => rfl))) (pe_op op_mulW (pe_ix ix_tup (pv 2) pe_int (fun _ _ => rfl)) (pe_ix ix_tup (pv 4) pe_int (fun _ _ => rfl)))) (pa_cons (pe_op op_mulW (pe_ix ix_tup (pv 4) pe_int (fun _ _ => rfl)) (pe_ix ix_tup (pv 2) pe_int (fun _ _ => rfl))) pa_nil))))))) (pss_one (ps_ret (pv 2))))), ?_⟩
    walk_at "rd"
    refine ⟨by show 2 ≤ sizeLine; decide, fun t0 ht0 => ?_⟩
    have e1 : Same H (upd H t0 (.tup [.int 0, .int 1])) := Same.new ht0
    have h1 : upd H t0 (.tup [.int 0, .int 1]) t0 = some (fV (0, 1)) := upd_same
    walk_at "rd"
    refine ⟨⟨_, e1.seq hpl⟩, for_list (K := K) (a := pl) (xs := xs) (fun i σ H' => ∃ (t : Addr) (v3 v4 : Option V), Same H H' ∧ σ = [some (.ref l), some (.ref pl), some (.ref t), v3, v4] ∧ H' t = some (fV (UM.sumF ns (ps.take i)))) ⟨t0, none, none, e1, rfl, h1⟩ (fun i σ H' _ h => by obtain ⟨_, _, _, e, _⟩ := h; exact e.seq hpl) ?_ ?_⟩
    · rintro i x σ H2 hx1 ⟨t, v3, v4, e2, rfl, h2⟩
      obtain ⟨p, a, hp1, rfl, hp3⟩ := hpr.2 i x hx1
      have hst := hS.take h12 i
      have et : ps.take (i + 1) = ps.take i ++ [p] := by rw [List.take_add_one, hp1]; rfl
      walk_at "rd"
      refine ⟨l, a, ns, p, rfl, e2.seq hl, hS, e2 _ _ hp3, fun H3 r e3 h3 => ?_⟩
      have s1 : SqT K H3 t [.int ((UM.sumF ns (ps.take i)).1 : Int), .int ((UM.sumF ns (ps.take i)).2 : Int)] := SqT.of (e3 _ _ h2)
      have s2 : SqT K H3 r [.int ((UM.dbt ns p).1 : Int), .int ((UM.dbt ns p).2 : Int)] := SqT.of h3
      walk_at "rd"
      refine ⟨wide_mul (nlt (hS.dbt1 p)) (nlt hst.2) (by decide) (by decide) (by decide), ?_⟩
      walk_at "rd"
      refine ⟨wide_mul (nlt hst.1) (nlt (hS.dbt2 p)) (by decide) (by decide) (by decide), ?_⟩
      walk_at "rd"
      refine ⟨wide_mul (nlt (hS.dbt2 p)) (nlt hst.2) (by decide) (by decide) (by decide), ?_⟩
      walk_at "rd"
      have en : (((UM.dbt ns p).1 : Nat) : Int) * ((UM.sumF ns (ps.take i)).2 : Int) + ((UM.sumF ns (ps.take i)).1 : Int) * ((UM.dbt ns p).2 : Int) = (((UM.dbt ns p).1 * (UM.sumF ns (ps.take i)).2 + (UM.sumF ns (ps.take i)).1 * (UM.dbt ns p).2 : Nat) : Int) := by rw [Int.natCast_add, Int.natCast_mul, Int.natCast_mul]
      have em : (((UM.dbt ns p).2 : Nat) : Int) * ((UM.sumF ns (ps.take i)).2 : Int) = (((UM.dbt ns p).2 * (UM.sumF ns (ps.take i)).2 : Nat) : Int) := (Int.natCast_mul _ _).symm
      simp only [en, em]
      refine ⟨Nat.mul_pos (UM.dbt_pos ns p) (UM.sumF_pos ns _), Nat.lt_of_lt_of_le (Nat.mul_lt_mul'' (hS.dbt2 p) hst.2) (by rw [← Nat.pow_add]; exact UM.p2le (by decide)), fun r2 hr2 => ?_⟩
      walk_at "rd"
      refine ⟨r2, _, _, Same.push (e2.trans e3) hr2, rfl, ?_⟩
      rw [upd_same, et, UM.sumF_snoc]
      rfl
    · rintro σ H2 ⟨t, v3, v4, e2, rfl, h2⟩
      rw [hpr.1, List.take_length] at h2
      walk_at "rd"
      exact q H2 t e2 h2
end
end U
set_option maxHeartbeats 4100000
namespace U
open PySem L2 He
/-! ### the plain law: what the lifting tells about the sayings -/
theorem PairOk.dis {n : Nat} {p : UM.P} (h : PairOk n p) : UM.Dis p := and_dis h.d
section
variable {ps : List UM.P} {s : UM.P} {n : Nat} {l : UM.Lay}
theorem y_iff (D : UM.Done (UM.rowsU ps ++ [UM.rowF s]) n l) (hp : ∀ p ∈ ps, PairOk n p) (hs : PairOk n s) {E : Nat} (hE : UM.EndOf l E) : UM.Sub s.2 E ↔ UM.Y ps s := by
  have e := D.len
  subst e
  refine ⟨fun h => ?_, fun y => UM.end_of_yes D.sound hE hs.b1 y⟩
  have sh := UM.yes_of D.sound D.stuck hE hs.dis (fun p h => (hp p h).c1) hs.b1 h (atL ps (lotOf ps E)) atL_mem
  exact ⟨_, fun p h => ((atL_mem p).mp h).1, sh⟩
theorem lotBad_asc {m : Nat} : ∀ (L : List Nat) (last : Int), (∀ x ∈ L, last < (x : Int) ∧ x < m) → L.Pairwise (fun a b => a < b) → lotBad m last (L.map fun (d : Nat) => (d : Int)) = false
  | [], _, _, _ => rfl
  | x :: r, last, h, hp => by
    obtain ⟨h1, h2⟩ := h x List.mem_cons_self
    rw [List.map_cons, lotBad_cons, if_pos ⟨h1, by omega⟩]
    have q := List.pairwise_cons.mp hp
    exact lotBad_asc r x (fun y hy => ⟨by have := q.1 y hy; omega, (h y (List.mem_cons_of_mem _ hy)).2⟩) q.2
theorem nat_back (L : List Nat) : (L.map fun (d : Nat) => (d : Int)).map Int.toNat = L := by
  rw [List.map_map]
  have : (Int.toNat ∘ fun (d : Nat) => (d : Int)) = id := by funext d; simp
  rw [this, List.map_id]
theorem nV_int (L : List Nat) : nV L = (L.map fun (d : Nat) => (d : Int)).map V.int := by
  unfold nV
  rw [List.map_map]
  rfl
/-- the told lot: no word is due, the sum of its doubts bounds the saying's -/
theorem told_lot (D : UM.Done (UM.rowsU ps ++ [UM.rowF s]) n l) (hp : ∀ p ∈ ps, PairOk n p) (hs : PairOk n s) {E : Nat} (hE : UM.EndOf l E) (h : UM.Sub s.2 E) : wordB ps s ((lotOf ps E).map fun (d : Nat) => (d : Int)) = .non := by
  unfold wordB
  rw [lotBad_asc (lotOf ps E) (-1) (fun x hx => ⟨by omega, lot_lt hx⟩) (lot_asc ps E), if_neg Bool.false_ne_true, nat_back]
  rw [widest_sharp D hE hs.dis (fun p h => (hp p h).c1) hs.b1 h, if_pos rfl]
theorem lot_bound {lot : List Nat} (hp : ∀ p ∈ ps, PairOk n p) (hl : ∀ i ∈ lot, i < ps.length) (h : UM.sharp (UM.joinP (atL ps lot)) s = true) (ns : List Nat) : UM.above (UM.dbt ns s) (UM.sumF ns (atL ps lot)) = false := by
  refine UM.bounded_law (UM.Sharp_iff.mp h) fun p hpp => ?_
  unfold atL at hpp
  obtain ⟨i, hi, rfl⟩ := List.mem_map.mp hpp
  have := hl i hi
  rw [List.getD_eq_getElem?_getD, List.getElem?_eq_getElem this]
  exact (hp _ (List.getElem_mem this)).dis
/-- the told weights -/
theorem told_steps (D : UM.Done (UM.rowsU ps ++ [UM.rowF s]) n l) (hp : ∀ p ∈ ps, PairOk n p) (hs : PairOk n s) {E : Nat} (hE : UM.EndOf l E) (h : ¬ UM.Sub s.2 E) (hn : 0 < n) {parts : Nat} (h1 : 1 ≤ parts) {ns : List Nat} (S : UM.Steps l (n * max parts (2 * ps.length + 2)) ns) :
    ns.length = n ∧ (∀ p ∈ ps, UM.above (UM.dbt ns p) (1, parts) = false) ∧ UM.above (parts - 1, parts) (UM.dbt ns s) = false ∧ UM.above (UM.dbt ns s) (UM.sumF ns ps) = true := by
  have e := D.len
  subst e
  have st := UM.step1_flip ps s
  have k1 : ∀ p ∈ ps, max parts (2 * ps.length + 2) * UM.wt ns p.2 ≤ UM.wt ns p.1 := fun p h => UM.steps_rowM S D.sound st hn (r := UM.rowU p) (List.mem_append_left _ (List.mem_map.mpr ⟨p, h, rfl⟩))
  have k2 : max parts (2 * ps.length + 2) * UM.wt ns s.1 ≤ UM.wt ns s.2 := UM.steps_rowM S D.sound st hn (r := UM.rowF s) (List.mem_append_right _ (List.mem_singleton.mpr rfl))
  have k3 : 0 < UM.wt ns s.2 := UM.steps_pos S hE hs.b1 h
  exact ⟨S.len, fun p h => UM.part_small (k1 p h) (Nat.le_max_left _ _), UM.part_great k2 k3 (Nat.le_max_left _ _) h1, UM.exceeds_law (Nat.le_max_right _ _) k1 k2 k3⟩
/-- what is bounded is told by all orders -/
theorem told_yes {l2 : UM.Lay} (D2 : UM.Done (UM.rowsU ps ++ [UM.rowC s]) n l2) (hp : ∀ p ∈ ps, PairOk n p) (hs : PairOk n s) (y : UM.Y ps s) : UM.openL l2 ≠ [] := by
  have e := D2.len
  subst e
  obtain ⟨d, hd⟩ := Nat.exists_testBit_of_ne_zero hs.ne
  have hd2 : s.1.testBit d = true ∨ s.2.testBit d = true := by rw [Nat.testBit_or] at hd; exact Bool.or_eq_true_iff.mp hd
  have hdl : d < l2.length := by
    rcases hd2 with h | h
    · exact UM.lt_of_tb hs.c1 h
    · exact UM.lt_of_tb hs.b1 h
  obtain ⟨e, he, hn⟩ := UM.stuck_of_yes D2.sound ⟨d, hdl, hd2⟩ (fun p h => ⟨(hp p h).c1, (hp p h).b1⟩) y hs.c1
  intro h
  have := UM.mem_openL.mpr ⟨he, hn⟩
  rw [h] at this
  cases this
/-- if some order keeps the book, nothing else is told -/
theorem told_no {l2 k : UM.Lay} (D : UM.Done (UM.rowsU ps ++ [UM.rowF s]) n l) (D2 : UM.Done (UM.rowsU ps ++ [UM.rowC s]) n l2) (Dk : UM.Done (UM.rowsU ps) n k) (hp : ∀ p ∈ ps, PairOk n p) (hs : PairOk n s) (y : ¬ UM.Y ps s) (ho : UM.openL l2 ≠ []) : UM.openL k ≠ [] := by
  have hE := UM.end_maskL l
  have h := fun q => y ((y_iff D hp hs hE).mp q)
  have e := D.len
  subst e
  intro hk
  obtain ⟨d, hd⟩ := List.exists_mem_of_ne_nil _ ho
  obtain ⟨h1, h2⟩ := UM.mem_openL.mp hd
  refine UM.free_of_not D.sound hE hs.b1 hs.c1 (fun p h => (hp p h).c1) h Dk.sound (fun d hd e => ?_) Dk.len D2.stuck D2.len d h1 h2
  have := UM.mem_openL.mpr ⟨hd, e⟩
  rw [hk] at this
  cases this
end
end U
set_option maxHeartbeats 4100000
namespace U
open L2 PyProof.Rows PySem PySem.Spec
/-! ### what walks a list or a tuple, without saying which -/
/-- G says that xs stands at a, as a list or as a tuple -/
def IsSq (K : PySem.W.Frag) (a : Addr) (xs : List V) (G : Hp → Prop) : Prop := (G = fun H => SqL K H a xs) ∨ (G = fun H => SqT K H a xs)
theorem IsSq.mono {K : PySem.W.Frag} {a : Addr} {xs : List V} {G : Hp → Prop} {H H' : Hp} (s : IsSq K a xs G) (e : Same H H') (h : G H) : G H' := by
  rcases s with rfl | rfl
  · exact Same.seq e h
  · exact Same.tup e h
section
variable {X : Cx} {tg : Expr}
def iAny (K : PySem.W.Frag) (tl : TE) : TI := fun σ H R => tl σ H fun x H1 => ∃ (a : Addr) (xs : List V) (G : Hp → Prop), x = .ref a ∧ IsSq K a xs G ∧ G H1 ∧ ∀ J, Walk J xs.length G (YAt xs) → R J H1
theorem pi_any {l : Expr} {tl : TE} (hl : PE X l tl) : PI X tg l (iAny X.K tl) := by
  refine ⟨fun held s σ H R Iv hq => thn (hl.run held s σ H _ Iv hq) fun v s1 got => ?_⟩
  obtain ⟨x, H1, I1, rel, a, xs, G, rfl, sq, hG, q⟩ := got
  cases rel
  have fresh : ∀ b ∈ [s1.heap.objs.size], FpOk X held H1 b := fun b mem => by
    rw [List.mem_singleton.mp mem]
    exact I1.fpOk (Nat.le_refl _) (I1.hok.fresh Nat.le.refl)
  rcases sq with rfl | rfl
  · obtain ⟨its, _, pl, _⟩ := I1.list hG
    exact wpAny_pyIter_list pl.isList ⟨_, [s1.heap.objs.size], _, _, H1, rfl, I1.kept (t' := s1.toks) fun _ _ z => Heap.get?_push_of_some _ z, turn_list a _, ⟨_, Heap.get?_push_size _ rfl, rfl, rfl⟩, fresh, q _ walk_list⟩
  · obtain ⟨its, _, pl, _⟩ := I1.tuple hG
    exact wpAny_pyIter_tuple (show s1.heap.IsTuple a its.toArray from pl) ⟨_, [s1.heap.objs.size], _, _, H1, rfl, I1.kept (t' := s1.toks) fun _ _ z => Heap.get?_push_of_some _ z, turn_tuple a _, ⟨_, Heap.get?_push_size _ rfl, rfl, rfl⟩, fresh, q _ walk_tup⟩
def rLenK (K : PySem.W.Frag) : List V → Hp → VK → Prop := fun xs H Q => ∃ p ys, xs = [V.ref p] ∧ (SqL K H p ys ∨ SqT K H p ys) ∧ Q (.int (ys.length : Int)) H
theorem klen {K : PySem.W.Frag} (hK : X.K = K) : CallR X (.builtin "len") (rLenK K) := by subst hK; exact call_len_seq
/-- a block in two halves: Pv stands between them -/
def tCut (t u : TS) : TS := fun D σ H => ∃ Pv : L2.St → Hp → Prop, t { D with nx := Pv } σ H ∧ ∀ σ' H', Pv σ' H' → u D σ' H'
theorem pss_cut {st : Stmt} {rest : List Stmt} {t u : TS} (now : PS X st t) (later : PSs X rest u) : PSs X (st :: rest) (tCut t u) := by
  refine ⟨fun held s σ H D Iv h => ?_⟩
  obtain ⟨Pv, ha, hb⟩ := h
  refine wpAny_execs_cons (thn (now.run held s σ H { D with nx := Pv } Iv ha) fun way s1 got => ?_)
  cases way with
  | next =>
    obtain ⟨σ', H', I', got⟩ := got
    exact later.run held s1 σ' H' D I' (hb σ' H' got)
  | _ => exact got
end
end U
set_option maxHeartbeats 4100000
namespace U
open PySem L2 He
local macro_rules | `(tactic| walk_at "same") => `(tactic| first | (with_reducible assumption) | exact Same.refl _ | (refine Same.push ?_ (by assumption); walk_at "same") | (refine Same.own ?_ (by assumption); walk_at "same") | (refine Same.trans ?_ (by with_reducible assumption); walk_at "same"))
local macro_rules | `(tactic| walk_at "get") => `(tactic| first | assumption | exact upd_same | (refine get_push (by assumption) ?_; walk_at "get") | (refine get_ne (by assumption) ?_; walk_at "get") | (refine get_ne' (by assumption) ?_; walk_at "get") | (refine Same.get ?_ (by assumption); walk_at "same"))
local macro_rules | `(tactic| walk_at "has") => `(tactic| first | assumption | (refine Has.mono ?_ (by assumption); walk_at "same"))
local macro_rules | `(tactic| walk_at "sql") => `(tactic| first | assumption | exact SqL.of upd_same | exact SqL.of (by assumption) | (refine Same.seq ?_ (by assumption); walk_at "same") | (refine SqL.of ?_; walk_at "get"))
local macro_rules | `(tactic| walk_at "sqt") => `(tactic| first | assumption | exact SqT.of upd_same | exact SqT.of (by assumption) | (refine Same.tup ?_ (by assumption); walk_at "same") | (refine SqT.of ?_; walk_at "get"))
local macro_rules | `(tactic| walk_at "r1") => `(tactic| first | ((with_reducible refine ite_tt ?_ ?_); (focus exact rfl)) | ((with_reducible refine ite_ff ?_ ?_); (focus exact rfl)) | refine ⟨_, rfl, ?_⟩ | refine ⟨_, _, rfl, rfl, ?_⟩ | (refine ⟨rfl, ?_⟩) | refine ⟨(Int.natCast_nonneg _ : (0 : Int) ≤ _), ?_⟩ | refine ⟨_, _, rfl, ?_⟩ | refine ⟨_, _, _, rfl, ?_⟩ | (refine Has.ans (by walk_at "has") ?_) | refine ⟨_, _, _, _, rfl, rfl, (by walk_at "sql"), rfl, ?_⟩ | refine ⟨_, _, rfl, .inl (by walk_at "sql"), ?_⟩ | refine ⟨_, _, rfl, .inr (by walk_at "sqt"), ?_⟩ | refine ⟨_, _, _, _, rfl, rfl, (by walk_at "sqt"), rfl, ?_⟩ | refine ⟨_, _, rfl, (by walk_at "sqt"), rfl, ?_⟩ | refine ⟨_, _, _, _, rfl, (by walk_at "get"), (by assumption), (by assumption), (by walk_at "len"), ?_⟩ | refine ⟨_, _, _, _, _, rfl, (by walk_at "get"), (by assumption), (by assumption), (by walk_at "lk"), ?_⟩)
local macro_rules | `(tactic| walk_at "rd") => `(tactic| repeat walk_at "r1")
local macro_rules | `(tactic| walk_at "lk") => `(tactic| first | (with_reducible exact lk_hit) | (refine lk_miss (by decide +kernel) ?_; walk_at "lk") | rfl)
local macro_rules | `(tactic| walk_at "len") => `(tactic| (refine Nat.lt_of_le_of_lt (m := 60) ?_ (by decide); (repeat (refine len_put ?_)); exact Nat.zero_le _))
local macro_rules | `(tactic| walk_at "len9") => `(tactic| (refine Nat.le_trans (m := 60) ?_ (by decide); (repeat (refine len_put ?_)); exact Nat.zero_le _))
local macro_rules | `(tactic| walk_at "own") => `(tactic| first | assumption | (refine Same.own ?_ (by assumption); walk_at "own"))

section
variable {P : Program} {w : World} {base : Heap}
variable {K : PySem.W.Frag} {mg : Str → Option Value}
def spLJoin (K : PySem.W.Frag) : Sp := fun vs H Q _ => ∃ (l : Addr) (xs : List V) (ps : List UM.P), vs = [.ref l] ∧ SqL K H l xs ∧ Prs H xs ps ∧ ∀ H' r, Same H H' → H r = none → H' r = some (pV (UM.joinP ps)) → Q (.ref r) H'
theorem sc_law_joined : FnScope ["_law_pairs_here", "_law_confirm", "_law_broken", "_law_pair_here"] ["_law_pairs_here"] (defScope (top 112)) := ⟨rfl, rfl, rfl, by decide +kernel, rfl, by decide +kernel, by decide +kernel⟩
theorem ok_law_joined (T : Txt K mg) : Ok P w K mg base 1 (ga K "_law_joined") ["_law_pairs_here"] (spLJoin K) := by
  obtain ⟨fd, F⟩ := T.d_law_joined
  refine ⟨_, F.ok sc_law_joined (fun vs H Q E h => ?_) (fun cdv A outer s H vs Q E hr h => ?_), F.binds fun _ _ _ _ _ _ us hl => match us, hl with | [_], _ => rfl, F.kp⟩
  · obtain ⟨l, xs, ps, rfl, _⟩ := h
    rfl
  · obtain ⟨l, xs, ps, rfl, hl, hpr, q⟩ := h
    refine ⟨_, (pss_cons (ps_asg (pe_tup (pa_cons pe_int (pa_cons pe_int pa_nil))) (pg_tup rfl (pgs_cons (pg_name (i := 1) sc_law_joined.nd rfl (Or.inl rfl)) (pgs_cons (pg_name (i := 2) sc_law_joined.nd rfl (Or.inl rfl)) pgs_nil))))
      (pss_cons (ps_for PassesOwn.never rfl (pi_list (pv 0)) (pg_name (i := 3) sc_law_joined.nd rfl (Or.inl rfl)) (pss_one (ps_par (i := 1) (j := 2) (by rfl) sc_law_joined.nd rfl rfl (by decide) rfl rfl (pa_cons (pe_op op_or (pv 1) (pe_ix ix_list (pv 3) pe_int (fun _ _ => rfl))) (pa_cons (pe_op op_or (pv 2) (pe_ix ix_list (pv 3) pe_int (fun _ _ => rfl))) pa_nil)) (by rfl)))) (pss_one (ps_ret (pe_lst (pa_cons (pe_op op_and (pv 1) (pe_un un_inv (pv 2))) (pa_cons (pv 2) pa_nil))))))), ?_⟩
    walk_at "rd"
    refine ⟨by show 2 ≤ sizeLine; decide, fun t0 ht0 => ?_⟩
    have e0 : Same H (upd H t0 (.tup [.int 0, .int 0])) := Same.new ht0
    refine ⟨t0, _, rfl, SqT.of upd_same, rfl, ?_⟩
    revert e0
    generalize upd H t0 (.tup [.int 0, .int 0]) = H0
    intro e0
    walk_at "rd"
    have hl0 := e0.seq hl
    have hpr0 := hpr.mono e0
    refine ⟨⟨_, hl0⟩, for_it (walk_list (K := K) (a := l) (xs := xs)) (fun i σ H' => ∃ (v : Option V), H' = H0 ∧ σ = [some (.ref l), some (.int ((UM.orC (ps.take i) : Nat) : Int)), some (.int ((UM.orB (ps.take i) : Nat) : Int)), v]) ⟨none, rfl, rfl⟩ (fun i σ H' _ h => by obtain ⟨_, rfl, _⟩ := h; exact hl0) ?_ ?_⟩
    · rintro i x σ H1 H2 hi ⟨v, rfl, rfl⟩ ⟨rfl, hx1⟩
      obtain ⟨p, a, hp1, rfl, hp3⟩ := hpr0.2 i x hx1
      have s1 : SqL K H2 a [.int (p.1 : Int), .int (p.2 : Int)] := SqL.of hp3
      have et : ps.take (i + 1) = ps.take i ++ [p] := by rw [List.take_add_one, hp1]; rfl
      walk_at "rd"
      simp only [bit_or]
      rw [et, UM.orC_snoc, UM.orB_snoc]
      exact ⟨_, trivial, rfl⟩
    · rintro σ H2 ⟨v, rfl, rfl⟩
      rw [hpr.1, List.take_length]
      walk_at "rd"
      simp only [bit_dif]
      refine ⟨by show 2 ≤ sizeLine; decide, fun r hr => ?_⟩
      exact q _ r (Same.push e0 hr) (Same.free e0 hr) upd_same
def spLSharp (K : PySem.W.Frag) : Sp := fun vs H Q _ => ∃ (a b : Addr) (f g : UM.P), vs = [.ref a, .ref b] ∧ H a = some (pV f) ∧ H b = some (pV g) ∧ Q (.bl (UM.sharp f g)) H
theorem sc_law_sharp : FnScope ["_law_one", "_law_other"] ["_law_one", "_law_other"] (defScope (top 113)) := ⟨rfl, rfl, rfl, by decide +kernel, rfl, by decide +kernel, by decide +kernel⟩
theorem ok_law_sharp (T : Txt K mg) : Ok P w K mg base 1 (ga K "_law_sharp") ["_law_one", "_law_other"] (spLSharp K) := by
  obtain ⟨fd, F⟩ := T.d_law_sharp
  refine ⟨_, F.ok sc_law_sharp (fun vs H Q E h => ?_) (fun cdv A outer s H vs Q E hr h => ?_), F.binds fun _ _ _ _ _ _ us hl => match us, hl with | [_, _], _ => rfl, F.kp⟩
  · obtain ⟨a, b, f, g, rfl, _⟩ := h
    rfl
  · obtain ⟨a, b, f, g, rfl, ha, hb, q⟩ := h
    refine ⟨_, (pss_one (ps_ret (pe_and (pe_cmpR op_eq (pe_op op_and (pe_ix ix_list (pv 0) pe_int (fun _ _ => rfl)) (pe_un un_inv (pe_ix ix_list (pv 1) pe_int (fun _ _ => rfl)))) pe_int (nomark _)) (pe_one (pe_cmpR op_eq (pe_op op_and (pe_ix ix_list (pv 1) pe_int (fun _ _ => rfl)) (pe_un un_inv (pe_ix ix_list (pv 0) pe_int (fun _ _ => rfl)))) pe_int (nomark _)))))), ?_⟩
    have s1 : SqL K H a [.int (f.1 : Int), .int (f.2 : Int)] := SqL.of ha
    have s2 : SqL K H b [.int (g.1 : Int), .int (g.2 : Int)] := SqL.of hb
    walk_at "rd"
    simp only [bit_dif, dec_dif]
    have es : UM.sharp f g = (decide (UM.Sub f.1 g.1) && decide (UM.Sub g.2 f.2)) := by
      rw [Bool.eq_iff_iff, UM.sharp_iff]
      simp
    by_cases h : UM.Sub f.1 g.1
    · rw [decide_eq_true h]
      walk_at "rd"
      simp only [bit_dif, dec_dif]
      rw [es, decide_eq_true h, Bool.true_and] at q
      exact q
    · rw [decide_eq_false h]
      rw [es, decide_eq_false h, Bool.false_and] at q
      walk_at "rd"
      exact q
theorem sel_take {c : Nat} {ps : List UM.P} {i : Nat} {p : UM.P} (h : ps[i]? = some p) : UM.sel c (ps.take (i + 1)) = UM.sel c (ps.take i) ++ (if c.testBit i = true then some p else none).toList := by
  unfold UM.sel
  rw [UM.fm_succ _ h]
def spLYields (K : PySem.W.Frag) : Sp := fun vs H Q _ => ∃ (l a : Addr) (xs : List V) (ps : List UM.P) (s : UM.P), vs = [.ref l, .ref a] ∧ SqL K H l xs ∧ Prs H xs ps ∧ ps.length ≤ 12 ∧ H a = some (pV s) ∧ ∀ H' b, Same H H' → (b = true ↔ UM.Y ps s) → Q (.bl b) H'
theorem sc_law_yields : FnScope ["_law_pairs_here", "_law_pair_here", "_law_code", "_law_k", "_law_each"] ["_law_pairs_here", "_law_pair_here"] (defScope (top 114)) := ⟨rfl, rfl, rfl, by decide +kernel, rfl, by decide +kernel, by decide +kernel⟩
theorem ok_law_yields (T : Txt K mg) : Ok P w K mg base 2 (ga K "_law_yields") ["_law_pairs_here", "_law_pair_here"] (spLYields K) := by
  obtain ⟨fd, F⟩ := T.d_law_yields
  obtain ⟨_, G_law_sharp, b_law_sharp, k_law_sharp⟩ := ok_law_sharp (P := P) (w := w) (base := base) T
  obtain ⟨_, G_law_joined, b_law_joined, k_law_joined⟩ := ok_law_joined (P := P) (w := w) (base := base) T
  refine ⟨_, F.ok sc_law_yields (fun vs H Q E h => ?_) (fun cdv A outer s H vs Q E hr h => ?_), F.binds fun _ _ _ _ _ _ us hl => match us, hl with | [_, _], _ => rfl, F.kp⟩
  · obtain ⟨l, a, xs, ps, s, rfl, _⟩ := h
    rfl
  · obtain ⟨l, a, xs, ps, s, rfl, hl, hpr, h12, ha, q⟩ := h
    refine ⟨_, (pss_cons (ps_for PassesOwn.never rfl (pi_rangeN rfl T.b_range (pa_cons (pe_op op_shl pe_int (pe_callB call_len_seq (by rfl) T.b_len (by decide +kernel) (pa_cons (pv 0) pa_nil))) pa_nil)) (pg_name (i := 2) sc_law_yields.nd rfl (Or.inr rfl)) (pss_one (ps_if (pt_val (pe_call G_law_sharp (hr.mono (by decide)) rfl T.g__law_sharp k_law_sharp b_law_sharp .nil pass0 (pa_cons (pe_call G_law_joined (hr.mono (by decide)) rfl T.g__law_joined k_law_joined b_law_joined .nil pass0 (pa_cons (pe_lc (own := [("_law_k", 3), ("_law_each", 4)]) rfl sc_law_yields.nd (pi_enum (by rfl) T.b_enumerate (pa_cons (pv 0) pa_nil)) (blkOk_by (own := [("_law_k", 3), ("_law_each", 4)]) (N := ["_law_pairs_here", "_law_pair_here", "_law_code", "_law_k", "_law_each"]) (sc := defScope (top 114)) (by decide +kernel)) (fun _ _ _ _ _ => (kgtup (K := K) (n := 2) rfl (pgs_cons (pg_name (i := 3) sc_law_yields.nd rfl (Or.inl rfl)) (pgs_cons (pg_name (i := 4) sc_law_yields.nd rfl (Or.inl rfl)) pgs_nil)) rfl)) (fun _ _ _ _ _ => pts_one (pt_cmpR op_eq (pe_op op_and (pe_op op_shr (pv 2) (pv 3)) pe_int) pe_int (nomark _))) (fun _ _ _ _ _ => (pv 4))) pa_nil)) (pa_cons (pv 1) pa_nil)))) (pss_one (ps_ret pe_bl)) pss_nil))) (pss_one (ps_ret pe_bl))), ?_⟩
    walk_at "rd"
    refine ⟨⟨Int.natCast_nonneg _, by rw [hpr.1]; omega, by decide⟩, ?_⟩
    have p12 : 2 ^ ps.length ≤ 4096 := Nat.pow_le_pow_right (n := 2) (by decide) h12
    refine ⟨2 ^ ps.length, congrArg (fun z => [V.int z]) (by rw [hpr.1]; exact shl_one _), by omega, for_it (walk_rangeN (n := 2 ^ ps.length)) (fun i σ H' => ∃ v : Option V, Same H H' ∧ σ = [some (.ref l), some (.ref a), v, none, none] ∧ ∀ c, c < i → UM.sharp (UM.joinP (UM.sel c ps)) s = false) ⟨none, Same.refl _, rfl, fun c h => by omega⟩ (fun _ _ _ _ _ => trivial) ?_ ?_⟩
    · rintro i x σ H2 H1 hi ⟨v, e1, rfl, hno⟩ ⟨rfl, rfl⟩
      have hl1 := e1.seq hl
      have hpr1 := hpr.mono e1
      walk_at "rd"
      refine ⟨l, _, rfl, hl1, fun D hD => lc_it (walk_enum (K := K) (a := l) (xs := xs)) (fun j H' => Same H1 H' ∧ ∃ acc, H' D = some (.lst acc) ∧ Prs H1 acc (UM.sel i (ps.take j))) ⟨Same.new hD, [], upd_same, rfl, fun i v hv => by cases hv⟩ (fun j H' _ h => h.1.seq hl1) ?_ ?_⟩
      · rintro j x H3 H4 hj ⟨e3, acc, h3, hpa⟩ ⟨Tp, y1, y2, rfl, hT, rfl, hy1, hy2⟩
        cases hy1
        obtain ⟨p, aa, hp1, rfl, hp3⟩ := hpr1.2 j y2 hy2
        have e4 : Same H1 (upd H3 Tp (.tup [.int (j : Nat), .ref aa])) := Same.push e3 hT
        have nD : D ≠ Tp := ne_of_none h3 hT
        have st := sel_take (c := i) hp1
        walk_at "rd"
        simp only [bit_oneT]
        cases hb : i.testBit j with
        | true =>
          rw [hb] at st
          walk_at "rd"
          refine ⟨acc, by rw [upd_ne nD]; exact h3, ?_, Same.own e4 hD, acc ++ [.ref aa], upd_same, ?_⟩
          · rw [hpa.1]
            unfold UM.sel
            exact Nat.lt_of_le_of_lt (UM.fm_len_take _ ps j) (Nat.lt_of_lt_of_le (by rw [hpr.1] at hj; omega : j < 12) (by decide))
          · rw [st]
            exact hpa.snoc hp3
        | false =>
          rw [hb] at st
          walk_at "rd"
          refine ⟨e4, acc, by rw [upd_ne nD]; exact h3, ?_⟩
          rw [st]
          simpa using hpa
      · rintro H3 ⟨e3, acc, h3, hpa⟩
        rw [hpr.1, List.take_length] at hpa
        walk_at "rd"
        refine ⟨D, acc, _, rfl, SqL.of h3, hpa.mono e3, fun H4 r e4 hr0 hr => ?_⟩
        walk_at "rd"
        refine ⟨r, a, _, s, rfl, hr, (e1.trans (e3.trans e4)) _ _ ha, ?_⟩
        cases hsh : UM.sharp (UM.joinP (UM.sel i ps)) s with
        | true =>
          walk_at "rd"
          exact q H4 true (e1.trans (e3.trans e4)) (iff_of_true rfl (UM.Y_code.mpr ⟨i, hi, hsh⟩))
        | false =>
          walk_at "rd"
          refine ⟨_, e1.trans (e3.trans e4), rfl, fun c hc => ?_⟩
          rcases Nat.lt_or_eq_of_le (Nat.lt_succ_iff.mp hc) with h | h
          · exact hno c h
          · rw [h]; exact hsh
    · rintro σ H1 ⟨v, e1, rfl, hno⟩
      walk_at "rd"
      refine q H1 false e1 (iff_of_false Bool.false_ne_true fun y => ?_)
      obtain ⟨c, hc, h⟩ := UM.Y_code.mp y
      rw [hno c hc] at h
      cases h
end
end U
set_option maxHeartbeats 4100000
namespace U
open PySem L2 He
local macro_rules | `(tactic| walk_at "same") => `(tactic| first | (with_reducible assumption) | exact Same.refl _ | (refine Same.push ?_ (by assumption); walk_at "same") | (refine Same.own ?_ (by assumption); walk_at "same") | (refine Same.trans ?_ (by with_reducible assumption); walk_at "same"))
local macro_rules | `(tactic| walk_at "get") => `(tactic| first | assumption | exact upd_same | (refine get_push (by assumption) ?_; walk_at "get") | (refine get_ne (by assumption) ?_; walk_at "get") | (refine get_ne' (by assumption) ?_; walk_at "get") | (refine Same.get ?_ (by assumption); walk_at "same"))
local macro_rules | `(tactic| walk_at "has") => `(tactic| first | assumption | (refine Has.mono ?_ (by assumption); walk_at "same"))
local macro_rules | `(tactic| walk_at "sql") => `(tactic| first | assumption | exact SqL.of upd_same | exact SqL.of (by assumption) | (refine Same.seq ?_ (by assumption); walk_at "same") | (refine SqL.of ?_; walk_at "get"))
local macro_rules | `(tactic| walk_at "sqt") => `(tactic| first | assumption | exact SqT.of upd_same | exact SqT.of (by assumption) | (refine Same.tup ?_ (by assumption); walk_at "same") | (refine SqT.of ?_; walk_at "get"))
local macro_rules | `(tactic| walk_at "r1") => `(tactic| first | ((with_reducible refine ite_tt ?_ ?_); (focus exact rfl)) | ((with_reducible refine ite_ff ?_ ?_); (focus exact rfl)) | refine ⟨_, rfl, ?_⟩ | refine ⟨_, _, rfl, rfl, ?_⟩ | (refine ⟨rfl, ?_⟩) | refine ⟨(Int.natCast_nonneg _ : (0 : Int) ≤ _), ?_⟩ | refine ⟨_, _, rfl, ?_⟩ | refine ⟨_, _, _, rfl, ?_⟩ | (refine Has.ans (by walk_at "has") ?_) | refine ⟨_, _, _, _, rfl, rfl, (by walk_at "sql"), rfl, ?_⟩ | refine ⟨_, _, rfl, .inl (by walk_at "sql"), ?_⟩ | refine ⟨_, _, rfl, .inr (by walk_at "sqt"), ?_⟩ | refine ⟨_, _, _, _, rfl, rfl, (by walk_at "sqt"), rfl, ?_⟩ | refine ⟨_, _, rfl, (by walk_at "sqt"), rfl, ?_⟩ | refine ⟨_, _, _, _, rfl, (by walk_at "get"), (by assumption), (by assumption), (by walk_at "len"), ?_⟩ | refine ⟨_, _, _, _, _, rfl, (by walk_at "get"), (by assumption), (by assumption), (by walk_at "lk"), ?_⟩)
local macro_rules | `(tactic| walk_at "rd") => `(tactic| repeat walk_at "r1")
local macro_rules | `(tactic| walk_at "lk") => `(tactic| first | (with_reducible exact lk_hit) | (refine lk_miss (by decide +kernel) ?_; walk_at "lk") | rfl)
local macro_rules | `(tactic| walk_at "len") => `(tactic| (refine Nat.lt_of_le_of_lt (m := 60) ?_ (by decide); (repeat (refine len_put ?_)); exact Nat.zero_le _))
local macro_rules | `(tactic| walk_at "len9") => `(tactic| (refine Nat.le_trans (m := 60) ?_ (by decide); (repeat (refine len_put ?_)); exact Nat.zero_le _))
local macro_rules | `(tactic| walk_at "own") => `(tactic| first | assumption | (refine Same.own ?_ (by assumption); walk_at "own"))

section
variable {P : Program} {w : World} {base : Heap}
variable {K : PySem.W.Frag} {mg : Str → Option Value}
theorem Prs.dp {H : Hp} {xs : List V} {ps : List UM.P} (h : Prs H xs ps) : ∀ v ∈ xs, ∃ a p, v = .ref a ∧ H a = some (pV p) := fun v hv => by
  obtain ⟨i, hi⟩ := List.getElem?_of_mem hv
  obtain ⟨p, a, _, h2, h3⟩ := h.2 i v hi
  exact ⟨a, p, h2, h3⟩
theorem dp_prs {H : Hp} : ∀ {xs : List V}, (∀ v ∈ xs, ∃ a p, v = .ref a ∧ H a = some (pV p)) → ∃ ds, DpAll K H xs ds ∧ PyData.canLayAll0 ds = true ∧ PyData.depthAll ds ≤ 1 ∧ PyData.eqvAll ds [] = xs.isEmpty
  | [], _ => ⟨[], .nil, rfl, Nat.zero_le _, rfl⟩
  | v :: xs, h => by
    obtain ⟨ds, g1, g2, g3, _⟩ := dp_prs (H := H) fun u hu => h u (List.mem_cons_of_mem _ hu)
    obtain ⟨a, p, rfl, ha⟩ := h v List.mem_cons_self
    obtain ⟨es, k1, k2, k3, _⟩ := dp_ints (K := K) (H := H) [p.1, p.2]
    refine ⟨_, .cons (.lst (SqL.of ha) k1) g1, ?_, ?_, rfl⟩
    · show (PyData.canLayAll0 es && PyData.canLayAll0 ds) = true
      rw [k2, g2]; rfl
    · show max (PyData.depthAll es + 1) (PyData.depthAll ds) ≤ 1
      rw [k3]
      omega
theorem ne_emptyP {H : Hp} {a e : Addr} {xs : List V} {Q : VK} (ha : SqL K H a xs) (hf : ∀ v ∈ xs, ∃ a p, v = .ref a ∧ H a = some (pV p)) (he : SqL K H e []) (q : Q (.bl (!xs.isEmpty)) H) : rNeD K (.ref a) (.ref e) H Q := by
  obtain ⟨ds, g1, g2, g3, g4⟩ := dp_prs (K := K) hf
  refine ⟨_, _, .lst ha g1, .lst he .nil, ?_, shaped_flat (ds := []) rfl rfl, ?_⟩
  · unfold PySem.SeqAt.shaped PyData.canLay0 PyData.depth
    rw [g2, Bool.true_and]
    exact (decide_eq_true (by omega))
  · show Q (.bl (!PyData.eqvAll ds [])) H
    rw [g4]
    exact q
theorem small16 {n k : Nat} (hn : n ≤ 16) (h : k ≤ 2 ^ n) : k < 2 ^ 8000 := Nat.lt_of_le_of_lt (Nat.le_trans h (Nat.pow_le_pow_right (n := 2) (by decide) hn)) (UM.p2lt (by decide))
/-- days of a lot with more days confirmed, fewer broken -/
theorem pairOk_of {n C B E : Nat} (hC : C < 2 ^ n) (hE : E < 2 ^ n) (hs : UM.Sub B (UM.dif E C)) (h : 0 < B ∨ 0 < C) : PairOk n (C, B) := by
  have hs2 : ∀ i, B.testBit i = true → C.testBit i = false := fun i hi => by
    have := hs i hi
    rw [UM.tb_dif] at this
    cases q : C.testBit i with
    | false => rfl
    | true => rw [q] at this; simp at this
  refine ⟨hC, ?_, ?_, ?_⟩
  · exact lt_of_sub (fun i hi => by have := hs i hi; rw [UM.tb_dif] at this; exact (Bool.and_eq_true_iff.mp this).1) hE
  · apply Nat.eq_of_testBit_eq
    intro i
    rw [Nat.testBit_and, Nat.zero_testBit]
    cases q : B.testBit i with
    | false => simp
    | true => rw [hs2 i q]; rfl
  · intro e
    have e1 : C = 0 := by
      apply Nat.eq_of_testBit_eq; intro i
      have := congrArg (fun m => m.testBit i) e
      simp only [Nat.testBit_or, Nat.zero_testBit, Bool.or_eq_false_iff] at this
      rw [this.1, Nat.zero_testBit]
    have e2 : B = 0 := by
      apply Nat.eq_of_testBit_eq; intro i
      have := congrArg (fun m => m.testBit i) e
      simp only [Nat.testBit_or, Nat.zero_testBit, Bool.or_eq_false_iff] at this
      rw [this.2, Nat.zero_testBit]
    omega
def spLFurther (K : PySem.W.Frag) : Sp := fun vs H Q _ => ∃ (z l : Addr) (n : Nat) (xs : List V) (ps : List UM.P), vs = [.ref z, .int n, .ref l] ∧ WS H z ∧ SqL K (drp z H) l xs ∧ Prs (drp z H) xs ps ∧ (∀ p ∈ ps, PairOk n p) ∧ ps.length ≤ 12 ∧ 0 < n ∧ n ≤ 16 ∧
  ∀ H' r p, FW z H H' → drp z H' r = some (pV p) → PairOk n p → Q (.ref r) H'
theorem sc_law_further : FnScope ["_law_well_here", "_law_days", "_law_pairs_here", "_law_pair_here", "_law_confirm", "_law_broken", "_law_each"] ["_law_well_here", "_law_days", "_law_pairs_here"] (defScope (top 115)) := ⟨rfl, rfl, rfl, by decide +kernel, rfl, by decide +kernel, by decide +kernel⟩
theorem ok_law_further (T : Txt K mg) : Ok P w K mg base 3 (ga K "_law_further") ["_law_well_here", "_law_days", "_law_pairs_here"] (spLFurther K) := by
  obtain ⟨fd, F⟩ := T.d_law_further
  obtain ⟨_, G_law_pair, b_law_pair, k_law_pair⟩ := ok_law_pair (P := P) (w := w) (base := base) T
  obtain ⟨_, G_law_drawn, b_law_drawn, k_law_drawn⟩ := ok_law_drawn (P := P) (w := w) (base := base) T
  obtain ⟨_, G_law_joined, b_law_joined, k_law_joined⟩ := ok_law_joined (P := P) (w := w) (base := base) T
  refine ⟨_, F.ok sc_law_further (fun vs H Q E h => ?_) (fun cdv A outer s H vs Q E hr h => ?_), F.binds fun _ _ _ _ _ _ us hl => match us, hl with | [_, _, _], _ => rfl, F.kp⟩
  · obtain ⟨z, l, n, xs, ps, rfl, _⟩ := h
    rfl
  · obtain ⟨z, l, n, xs, ps, rfl, hw, hl, hpr, hok, h12, hn0, hn, q⟩ := h
    refine ⟨_, (pss_cons (ps_set (i := 3) sc_law_further.nd rfl (Or.inl rfl) (pe_call G_law_pair (hr.mono (by decide)) rfl T.g__law_pair k_law_pair b_law_pair .nil pass0 (pa_cons (pv 0) (pa_cons (pv 1) (pa_cons (pe_lst pa_nil) pa_nil)))))
      (pss_cons (ps_if (PW.pt (pw_and (pt_cmpR (op_neD hr.units) (pv 2) (pe_lst pa_nil) (nomark _)) (pw_and1 (pt_cmpR op_eq (pe_call G_law_drawn (hr.mono (by decide)) rfl T.g__law_drawn k_law_drawn b_law_drawn .nil pass0 (pa_cons (pv 0) (pa_cons pe_int pa_nil))) pe_int (nomark _))))) (pss_cons (ps_asg (pe_call G_law_joined (hr.mono (by decide)) rfl T.g__law_joined k_law_joined b_law_joined .nil pass0 (pa_cons (pe_lc (own := [("_law_each", 6)]) rfl sc_law_further.nd (pi_list (pv 2)) (blkOk_by (own := [("_law_each", 6)]) (N := ["_law_well_here", "_law_days", "_law_pairs_here", "_law_pair_here", "_law_confirm", "_law_broken", "_law_each"]) (sc := defScope (top 115)) (by decide +kernel)) (fun _ _ _ _ _ => (pg_name (i := 6) sc_law_further.nd rfl (Or.inl rfl))) (fun _ _ _ _ _ => pts_one (pt_cmpR op_gt (pe_call G_law_drawn (hr.mono (by decide)) rfl T.g__law_drawn k_law_drawn b_law_drawn .nil pass0 (pa_cons (pv 0) (pa_cons pe_int pa_nil))) pe_int (nomark _))) (fun _ _ _ _ _ => (pv 6))) pa_nil)) (pg_lst rfl (pgs_cons (pg_name (i := 4) sc_law_further.nd rfl (Or.inl rfl)) (pgs_cons (pg_name (i := 5) sc_law_further.nd rfl (Or.inl rfl)) pgs_nil))))
      (pss_cons (ps_set (i := 4) sc_law_further.nd rfl (Or.inl rfl) (pe_op op_or (pv 4) (pe_op op_and (pe_call G_law_drawn (hr.mono (by decide)) rfl T.g__law_drawn k_law_drawn b_law_drawn .nil pass0 (pa_cons (pv 0) (pa_cons (pe_op op_shl pe_int (pv 1)) pa_nil))) (pe_call G_law_drawn (hr.mono (by decide)) rfl T.g__law_drawn k_law_drawn b_law_drawn .nil pass0 (pa_cons (pv 0) (pa_cons (pe_op op_shl pe_int (pv 1)) pa_nil))))))
      (pss_cons (ps_set (i := 5) sc_law_further.nd rfl (Or.inl rfl) (pe_op op_and (pv 5) (pe_un un_inv (pv 4))))
      (pss_cut (ps_if (pt_cmpR op_eq (pe_call G_law_drawn (hr.mono (by decide)) rfl T.g__law_drawn k_law_drawn b_law_drawn .nil pass0 (pa_cons (pv 0) (pa_cons pe_int pa_nil))) pe_int (nomark _)) (pss_one (ps_set (i := 5) sc_law_further.nd rfl (Or.inl rfl) (pe_op op_and (pv 5) (pe_call G_law_drawn (hr.mono (by decide)) rfl T.g__law_drawn k_law_drawn b_law_drawn .nil pass0 (pa_cons (pv 0) (pa_cons (pe_op op_shl pe_int (pv 1)) pa_nil)))))) pss_nil) (pss_one (ps_if (PW.pt (pw_or (pt_cmpR op_gt (pv 5) pe_int (nomark _)) (pw_or1 (PW.pt (pw_and (pt_cmpR op_gt (pv 4) pe_int (nomark _)) (pw_and1 (pt_cmpR op_eq (pe_call G_law_drawn (hr.mono (by decide)) rfl T.g__law_drawn k_law_drawn b_law_drawn .nil pass0 (pa_cons (pv 0) (pa_cons pe_int pa_nil))) pe_int (nomark _)))))))) (pss_one (ps_set (i := 3) sc_law_further.nd rfl (Or.inl rfl) (pe_lst (pa_cons (pv 4) (pa_cons (pv 5) pa_nil))))) pss_nil)))))) pss_nil) (pss_one (ps_ret (pv 3))))), ?_⟩
    walk_at "rd"
    refine ⟨by show 0 ≤ sizeLine; decide, fun e0 he0 => ?_⟩
    have f0 : FW z H (upd H e0 (.lst [])) := (FW.refl hw).push he0
    have z0 := hw.ne he0
    walk_at "rd"
    refine ⟨z, e0, n, [], rfl, f0.ws, SqL.of (by rw [drp_ne z0.symm]; exact upd_same), .inl rfl, hn0, hn, fun H1 r1 p1 f1 hr0 hr1 hp1 => ?_⟩
    have f01 := f0.trans f1
    walk_at "rd"
    refine ⟨by show 0 ≤ sizeLine; decide, fun eb heb => ?_⟩
    have f2 : FW z H (upd H1 eb (.lst [])) := f01.push heb
    have heb2 : SqL K (upd H1 eb (.lst [])) eb [] := SqL.of upd_same
    have hr12 : drp z (upd H1 eb (.lst [])) r1 = some (pV p1) := (FW.push (FW.refl f1.ws) heb).dd _ _ hr1
    revert f2 heb2 hr12
    generalize upd H1 eb (.lst []) = H2
    intro f2 heb2 hr12
    refine ne_emptyP (Same.seq f2.same hl) (hpr.mono f2.same).dp heb2 ?_
    have ret : ∀ H', FW z H2 H' → Q (.ref r1) H' := fun H' f => q H' r1 p1 (f2.trans f) (f.dd _ _ hr12) hp1
    cases hxe : xs.isEmpty with
    | true =>
      walk_at "rd"
      exact ret H2 (FW.refl f2.ws)
    | false =>
      walk_at "rd"
      refine ⟨f2.ws, by decide, small60 (by decide), fun H3 d3 f3 hd3 => ?_⟩
      have f23 := f2.trans f3
      walk_at "rd"
      by_cases hd0 : d3 = 0
      rotate_left
      · rw [vint_ne (show (d3 : Int) ≠ 0 by omega)]
        walk_at "rd"
        exact ret H3 f3
      subst hd0
      have hl3 : SqL K (drp z H3) l xs := Same.seq f23.dd hl
      have hpr3 := hpr.mono f23.dd
      walk_at "rd"
      refine ⟨⟨_, Same.seq drp_same hl3⟩, fun D hD => lc_it (walk_list (K := K) (a := l) (xs := xs)) (fun i H' => FW z H3 H' ∧ ∃ acc qs, H' D = some (.lst acc) ∧ Prs (drp z H3) acc qs ∧ (∀ p ∈ qs, p ∈ ps) ∧ acc.length ≤ i) ⟨(FW.refl f3.ws).push hD, [], [], upd_same, ⟨rfl, fun i v hv => by cases hv⟩, (fun p hp => by cases hp), Nat.le_refl _⟩ (fun i H' _ h => Same.seq h.1.same hl3) ?_ ?_⟩
      · rintro i x H4 H5 hi ⟨f4, acc, qs, h4, hpa, hsub, hal⟩ ⟨rfl, hx1⟩
        obtain ⟨p, aa, hp1', rfl, hp3⟩ := hpr3.2 i x hx1
        walk_at "rd"
        refine ⟨f4.ws, by decide, small60 (by decide), fun H6 d6 f6 hd6 => ?_⟩
        have zD := f3.ws.ne hD
        walk_at "rd"
        by_cases hd : 0 < d6
        · rw [decide_eq_true (show (0 : Int) < (d6 : Int) by omega)]
          walk_at "rd"
          refine ⟨acc, f6.get zD h4, ?_, (f4.trans f6).put zD hD, acc ++ [.ref aa], qs ++ [p], upd_same, hpa.snoc hp3, fun p' hp' => ?_, by rw [List.length_append]; show acc.length + 1 ≤ i + 1; omega⟩
          · exact Nat.lt_of_le_of_lt hal (Nat.lt_of_lt_of_le (by rw [hpr.1] at hi; omega : i < 12) (by decide))
          · rcases List.mem_append.mp hp' with h | h
            · exact hsub p' h
            · rw [List.mem_singleton.mp h]; exact List.mem_of_getElem? hp1'
        · rw [decide_eq_false (show ¬ (0 : Int) < (d6 : Int) by omega)]
          walk_at "rd"
          exact ⟨f4.trans f6, acc, qs, f6.get zD h4, hpa, hsub, by omega⟩
      · rintro H4 ⟨f4, acc, qs, h4, hpa, hsub, hal⟩
        obtain ⟨bC, bB⟩ := or_bounds (n := n) qs fun p hp => ⟨(hok p (hsub p hp)).c1, (hok p (hsub p hp)).b1⟩
        have jC : (UM.joinP qs).1 < 2 ^ n := UM.dif_lt bC
        have jB : (UM.joinP qs).2 < 2 ^ n := bB
        walk_at "rd"
        refine ⟨D, acc, qs, rfl, SqL.of h4, hpa.mono f4.same, fun H5 r5 e5 hr50 hr5 => ?_⟩
        have f35 := f4.trans (FW.of f4.ws e5)
        revert jC jB hr5
        generalize UM.joinP qs = J
        obtain ⟨JC, JB⟩ := J
        intro jC jB hr5
        refine ⟨r5, _, rfl, SqL.of hr5, rfl, ?_⟩
        walk_at "rd"
        refine ⟨⟨Int.natCast_nonneg _, by omega, by decide⟩, ?_⟩
        simp only [shl_one]
        walk_at "rd"
        refine ⟨f35.ws, Nat.two_pow_pos n, small16 hn (Nat.le_refl _), fun H6 d6 f6 hd6 => ?_⟩
        walk_at "rd"
        refine ⟨⟨Int.natCast_nonneg _, by omega, by decide⟩, ?_⟩
        simp only [shl_one]
        walk_at "rd"
        refine ⟨f6.ws, Nat.two_pow_pos n, small16 hn (Nat.le_refl _), fun H7 d7 f7 hd7 => ?_⟩
        have hC : JC ||| (d6 &&& d7) < 2 ^ n := Nat.or_lt_two_pow jC (Nat.and_lt_two_pow _ hd7)
        have f37 := (f35.trans f6).trans f7
        walk_at "rd"
        simp only [bit_and, bit_or]
        walk_at "rd"
        simp only [bit_dif]
        revert hC
        generalize JC ||| (d6 &&& d7) = C
        intro hC
        refine ⟨fun σ H' => ∃ B : Nat, σ = [some (.ref z), some (.int n), some (.ref l), some (.ref r1), some (.int C), some (.int B), none] ∧ FW z H3 H' ∧ UM.Sub B (UM.dif JB C), ?_, ?_⟩
        · walk_at "rd"
          refine ⟨f37.ws, by decide, small60 (by decide), fun H8 d8 f8 hd8 => ?_⟩
          have f38 := f37.trans f8
          walk_at "rd"
          by_cases h80 : d8 = 0
          · subst h80
            walk_at "rd"
            refine ⟨⟨Int.natCast_nonneg _, by omega, by decide⟩, ?_⟩
            simp only [shl_one]
            walk_at "rd"
            refine ⟨f8.ws, Nat.two_pow_pos n, small16 hn (Nat.le_refl _), fun H9 d9 f9 hd9 => ?_⟩
            walk_at "rd"
            refine ⟨f38.trans f9, fun i hi => ?_⟩
            have hi2 : (UM.dif JB C &&& d9).testBit i = true := hi
            rw [Nat.testBit_and] at hi2
            exact (Bool.and_eq_true_iff.mp hi2).1
          · rw [vint_ne (show (d8 : Int) ≠ 0 by omega)]
            walk_at "rd"
            exact ⟨f38, fun i hi => hi⟩
        · rintro σ H8 ⟨B, rfl, f38, hB⟩
          have mk : ∀ H', FW z H3 H' → (0 < B ∨ 0 < C) → 2 ≤ sizeLine ∧ ∀ r, H' r = none → Q (.ref r) (upd H' r (.lst [.int (C : Int), .int (B : Int)])) := fun H' f h => ⟨by decide, fun r hr => by
            have zr := f.ws.ne hr
            exact q _ r (C, B) ((f23.trans f).push hr) (by rw [drp_ne zr.symm]; exact upd_same) (pairOk_of hC jB hB h)⟩
          walk_at "rd"
          by_cases hb0 : 0 < B
          · rw [decide_eq_true (show (0 : Int) < (B : Int) by omega)]
            walk_at "rd"
            refine ⟨by show 2 ≤ sizeLine; decide, fun r hr => ?_⟩
            walk_at "rd"
            exact (mk H8 f38 (.inl hb0)).2 r hr
          rw [decide_eq_false (show ¬ (0 : Int) < (B : Int) by omega)]
          walk_at "rd"
          by_cases hc0 : 0 < C
          · rw [decide_eq_true (show (0 : Int) < (C : Int) by omega)]
            walk_at "rd"
            refine ⟨f38.ws, by decide, small60 (by decide), fun H9 d9 f9 hd9 => ?_⟩
            have f39 := f38.trans f9
            walk_at "rd"
            by_cases h90 : d9 = 0
            · subst h90
              walk_at "rd"
              refine ⟨by show 2 ≤ sizeLine; decide, fun r hr => ?_⟩
              walk_at "rd"
              exact (mk H9 f39 (.inr hc0)).2 r hr
            · rw [vint_ne (show (d9 : Int) ≠ 0 by omega)]
              walk_at "rd"
              exact ret H9 (f3.trans f39)
          · rw [decide_eq_false (show ¬ (0 : Int) < (C : Int) by omega)]
            walk_at "rd"
            exact ret H8 (f3.trans f38)
end
end U
set_option maxHeartbeats 4100000
namespace U
open PySem L2 He
local macro_rules | `(tactic| walk_at "same") => `(tactic| first | (with_reducible assumption) | exact Same.refl _ | (refine Same.push ?_ (by assumption); walk_at "same") | (refine Same.own ?_ (by assumption); walk_at "same") | (refine Same.trans ?_ (by with_reducible assumption); walk_at "same"))
local macro_rules | `(tactic| walk_at "get") => `(tactic| first | assumption | exact upd_same | (refine get_push (by assumption) ?_; walk_at "get") | (refine get_ne (by assumption) ?_; walk_at "get") | (refine get_ne' (by assumption) ?_; walk_at "get") | (refine Same.get ?_ (by assumption); walk_at "same"))
local macro_rules | `(tactic| walk_at "has") => `(tactic| first | assumption | (refine Has.mono ?_ (by assumption); walk_at "same"))
local macro_rules | `(tactic| walk_at "sql") => `(tactic| first | assumption | exact SqL.of upd_same | exact SqL.of (by assumption) | (refine Same.seq ?_ (by assumption); walk_at "same") | (refine SqL.of ?_; walk_at "get"))
local macro_rules | `(tactic| walk_at "sqt") => `(tactic| first | assumption | exact SqT.of upd_same | exact SqT.of (by assumption) | (refine Same.tup ?_ (by assumption); walk_at "same") | (refine SqT.of ?_; walk_at "get"))
local macro_rules | `(tactic| walk_at "r1") => `(tactic| first | ((with_reducible refine ite_tt ?_ ?_); (focus exact rfl)) | ((with_reducible refine ite_ff ?_ ?_); (focus exact rfl)) | refine ⟨_, rfl, ?_⟩ | refine ⟨_, _, rfl, rfl, ?_⟩ | (refine ⟨rfl, ?_⟩) | refine ⟨(Int.natCast_nonneg _ : (0 : Int) ≤ _), ?_⟩ | refine ⟨_, _, rfl, ?_⟩ | refine ⟨_, _, _, rfl, ?_⟩ | (refine Has.ans (by walk_at "has") ?_) | refine ⟨_, _, _, _, rfl, rfl, (by walk_at "sql"), rfl, ?_⟩ | refine ⟨_, _, rfl, .inl (by walk_at "sql"), ?_⟩ | refine ⟨_, _, rfl, .inr (by walk_at "sqt"), ?_⟩ | refine ⟨_, _, _, _, rfl, rfl, (by walk_at "sqt"), rfl, ?_⟩ | refine ⟨_, _, rfl, (by walk_at "sqt"), rfl, ?_⟩ | refine ⟨_, _, _, _, rfl, (by walk_at "get"), (by assumption), (by assumption), (by walk_at "len"), ?_⟩ | refine ⟨_, _, _, _, _, rfl, (by walk_at "get"), (by assumption), (by assumption), (by walk_at "lk"), ?_⟩)
local macro_rules | `(tactic| walk_at "rd") => `(tactic| repeat walk_at "r1")
local macro_rules | `(tactic| walk_at "lk") => `(tactic| first | (with_reducible exact lk_hit) | (refine lk_miss (by decide +kernel) ?_; walk_at "lk") | rfl)
local macro_rules | `(tactic| walk_at "len") => `(tactic| (refine Nat.lt_of_le_of_lt (m := 60) ?_ (by decide); (repeat (refine len_put ?_)); exact Nat.zero_le _))
local macro_rules | `(tactic| walk_at "len9") => `(tactic| (refine Nat.le_trans (m := 60) ?_ (by decide); (repeat (refine len_put ?_)); exact Nat.zero_le _))
local macro_rules | `(tactic| walk_at "own") => `(tactic| first | assumption | (refine Same.own ?_ (by assumption); walk_at "own"))

section
variable {P : Program} {w : World} {base : Heap}
variable {K : PySem.W.Frag} {mg : Str → Option Value}
def spLFilled (K : PySem.W.Frag) : Sp := fun vs H Q _ => ∃ (z l : Addr) (xs : List V) (ps : List UM.P), vs = [.ref z, .ref l] ∧ WS H z ∧ drp z H l = some (.lst xs) ∧ Prs (drp z H) xs ps ∧ 0 < ps.length ∧ ps.length ≤ 12 ∧
  ∀ H' r ys qs, FW z H H' → drp z H' r = some (.lst ys) → Prs (drp z H') ys qs → (∀ p ∈ qs, p ∈ ps) → qs.length ≤ 12 → (∀ p ∈ ps, p ∈ qs) → Q (.ref r) H'
theorem Prs.append {H : Hp} {xs ys : List V} {ps qs : List UM.P} (h : Prs H xs ps) (g : Prs H ys qs) : Prs H (xs ++ ys) (ps ++ qs) := by
  refine ⟨by rw [List.length_append, List.length_append, h.1, g.1], fun i v hv => ?_⟩
  by_cases c : i < xs.length
  · rw [List.getElem?_append_left c] at hv
    rw [List.getElem?_append_left (by rw [← h.1]; exact c)]
    exact h.2 i v hv
  · rw [List.getElem?_append_right (Nat.le_of_not_lt c)] at hv
    rw [List.getElem?_append_right (by rw [← h.1]; exact Nat.le_of_not_lt c), ← h.1]
    exact g.2 _ v hv
theorem sc_law_filled : FnScope ["_law_well_here", "_law_pairs_here", "_law_k"] ["_law_well_here", "_law_pairs_here"] (defScope (top 116)) := ⟨rfl, rfl, rfl, by decide +kernel, rfl, by decide +kernel, by decide +kernel⟩
theorem ok_law_filled (T : Txt K mg) : Ok P w K mg base 2 (ga K "_law_filled") ["_law_well_here", "_law_pairs_here"] (spLFilled K) := by
  obtain ⟨fd, F⟩ := T.d_law_filled
  obtain ⟨_, G_law_drawn, b_law_drawn, k_law_drawn⟩ := ok_law_drawn (P := P) (w := w) (base := base) T
  refine ⟨_, F.ok sc_law_filled (fun vs H Q E h => ?_) (fun cdv A outer s H vs Q E hr h => ?_), F.binds fun _ _ _ _ _ _ us hl => match us, hl with | [_, _], _ => rfl, F.kp⟩
  · obtain ⟨z, l, xs, ps, rfl, _⟩ := h
    rfl
  · obtain ⟨z, l, xs, ps, rfl, hw, hl, hpr, h0, h12, q⟩ := h
    refine ⟨_, (pss_one (ps_ret (pe_op op_cat (pv 1) (pe_lc (own := [("_law_k", 2)]) rfl sc_law_filled.nd (pi_rangeN rfl T.b_range (pa_cons (pe_op op_sub pe_int (pe_callB call_len_seq (by rfl) T.b_len (by decide +kernel) (pa_cons (pv 1) pa_nil))) pa_nil)) (blkOk_by (own := [("_law_k", 2)]) (N := ["_law_well_here", "_law_pairs_here", "_law_k"]) (sc := defScope (top 116)) (by decide +kernel)) (fun _ _ _ _ _ => (pg_name (i := 2) sc_law_filled.nd rfl (Or.inl rfl))) (fun _ _ _ _ _ => pts_nil) (fun _ _ _ _ _ => (kix (K := K) (pv 1) (pe_call G_law_drawn (hr.mono (by decide)) rfl T.g__law_drawn k_law_drawn b_law_drawn .nil pass0 (pa_cons (pv 0) (pa_cons (pe_callB (klen (K := K) rfl) (by rfl) T.b_len (by decide +kernel) (pa_cons (pv 1) pa_nil)) pa_nil))) (fun _ _ => rfl) rfl)))))), ?_⟩
    have hl1 : SqL K H l xs := SqL.of (drp_same _ _ hl)
    have hxl := hpr.1
    walk_at "rd"
    have e12 : (12 : Int) - (xs.length : Int) = ((12 - xs.length : Nat) : Int) := by omega
    simp only [e12]
    refine ⟨_, rfl, by omega, fun D hD => lc_it (walk_rangeN (n := 12 - xs.length)) (fun i H' => FW z H H' ∧ ∃ acc qs, H' D = some (.lst acc) ∧ Prs (drp z H) acc qs ∧ (∀ p ∈ qs, p ∈ ps) ∧ qs.length = i) ⟨(FW.refl hw).push hD, [], [], upd_same, ⟨rfl, fun i v hv => by cases hv⟩, (fun p hp => by cases hp), rfl⟩ (fun _ _ _ _ => trivial) ?_ ?_⟩
    · rintro i x H2 H1 hi ⟨f1, acc, qs, h1, hpa, hsub, hql⟩ ⟨rfl, rfl⟩
      have hl2 : SqL K H1 l xs := SqL.of (f1.same _ _ hl)
      have zD := hw.ne hD
      walk_at "rd"
      refine ⟨f1.ws, by omega, small60 (by omega), fun H3 d f3 hd => ?_⟩
      have hl3 : SqL K H3 l xs := SqL.of ((f1.trans f3).same _ _ hl)
      have hx : xs[d]? = some xs[d] := List.getElem?_eq_getElem hd
      obtain ⟨p, aa, hp1, hxa, hp3⟩ := hpr.2 d _ hx
      walk_at "rd"
      refine ⟨_, _, _, _, rfl, rfl, hl3, atI_nat hx, ?_⟩
      rw [hxa]
      refine ⟨acc, f3.get zD h1, ?_, (f1.trans f3).put zD hD, acc ++ [.ref aa], qs ++ [p], upd_same, hpa.snoc hp3, fun p' hp' => ?_, by rw [List.length_append, hql]; rfl⟩
      · rw [hpa.1, hql]; exact Nat.lt_of_lt_of_le (by omega : i < 12) (by decide)
      · rcases List.mem_append.mp hp' with h | h
        · exact hsub p' h
        · rw [List.mem_singleton.mp h]; exact List.mem_of_getElem? hp1
    · rintro H1 ⟨f1, acc, qs, h1, hpa, hsub, hql⟩
      walk_at "rd"
      have zD := hw.ne hD
      refine ⟨l, D, xs, acc, rfl, rfl, f1.same _ _ hl, h1, ?_, fun r hr => ?_⟩
      · rw [hpa.1, hql]; exact Nat.le_trans (by omega : xs.length + (12 - xs.length) ≤ 12) (by decide)
      · have f2 := f1.push hr (o := .lst (xs ++ acc))
        have zr := f1.ws.ne hr
        refine q _ r (xs ++ acc) (ps ++ qs) f2 (by rw [drp_ne zr.symm]; exact upd_same) ((hpr.append hpa).mono f2.dd) (fun p hp => ?_) (by rw [List.length_append]; omega) fun p hp => List.mem_append_left _ hp
        rcases (List.mem_append.mp hp) with h | h
        · exact h
        · exact hsub p h
def spLLot (K : PySem.W.Frag) : Sp := fun vs H Q _ => ∃ (l a t : Addr) (xs : List V) (ps : List UM.P) (s : UM.P) (lot : List Int) (G : Hp → Prop), vs = [.ref l, .ref a, .ref t] ∧ SqL K H l xs ∧ Prs H xs ps ∧ H a = some (pV s) ∧ IsSq K t (lot.map V.int) G ∧ G H ∧ lot.length ≤ 60 ∧ ps.length ≤ 12 ∧
  ∀ H', Same H H' → Q (wordB ps s lot) H'
theorem sc_law_lot_word : FnScope ["_law_pairs_here", "_law_pair_here", "_law_lot", "_law_last", "_law_number"] ["_law_pairs_here", "_law_pair_here", "_law_lot"] (defScope (top 117)) := ⟨rfl, rfl, rfl, by decide +kernel, rfl, by decide +kernel, by decide +kernel⟩
theorem ok_law_lot_word (T : Txt K mg) : Ok P w K mg base 2 (ga K "_law_lot_word") ["_law_pairs_here", "_law_pair_here", "_law_lot"] (spLLot K) := by
  obtain ⟨fd, F⟩ := T.d_law_lot_word
  obtain ⟨_, G_law_sharp, b_law_sharp, k_law_sharp⟩ := ok_law_sharp (P := P) (w := w) (base := base) T
  obtain ⟨_, G_law_joined, b_law_joined, k_law_joined⟩ := ok_law_joined (P := P) (w := w) (base := base) T
  refine ⟨_, F.ok sc_law_lot_word (fun vs H Q E h => ?_) (fun cdv A outer s H vs Q E hr h => ?_), F.binds fun _ _ _ _ _ _ us hl => match us, hl with | [_, _, _], _ => rfl, F.kp⟩
  · obtain ⟨l, a, t, xs, ps, s, lot, G, rfl, _⟩ := h
    rfl
  · obtain ⟨l, a, t, xs, ps, s, lot, G, rfl, hl, hpr, ha, sq, hG, h60, h12, q⟩ := h
    refine ⟨_, (pss_cons (ps_set (i := 3) sc_law_lot_word.nd rfl (Or.inl rfl) (pe_un un_neg pe_int))
      (pss_cons (ps_for PassesOwn.never rfl (pi_any (pv 2)) (pg_name (i := 4) sc_law_lot_word.nd rfl (Or.inl rfl)) (pss_cons (ps_if (pt_not (pt_chain op_lt op_lt (pv 3) (pv 4) (pe_callB call_len_seq (by rfl) T.b_len (by decide +kernel) (pa_cons (pv 0) pa_nil)))) (pss_one (ps_ret pe_str)) pss_nil) (pss_one (ps_set (i := 3) sc_law_lot_word.nd rfl (Or.inl rfl) (pv 4))))) (pss_one (ps_ret (pe_ifExp (pt_val (pe_call G_law_sharp (hr.mono (by decide)) rfl T.g__law_sharp k_law_sharp b_law_sharp .nil pass0 (pa_cons (pe_call G_law_joined (hr.mono (by decide)) rfl T.g__law_joined k_law_joined b_law_joined .nil pass0 (pa_cons (pe_lc (own := [("_law_number", 4)]) rfl sc_law_lot_word.nd (pi_any (pv 2)) (blkOk_by (own := [("_law_number", 4)]) (N := ["_law_pairs_here", "_law_pair_here", "_law_lot", "_law_last", "_law_number"]) (sc := defScope (top 117)) (by decide +kernel)) (fun _ _ _ _ _ => (pg_name (i := 4) sc_law_lot_word.nd rfl (Or.inl rfl))) (fun _ _ _ _ _ => pts_nil) (fun _ _ _ _ _ => (kix (K := K) (pv 0) (pv 4) (fun _ _ => rfl) rfl))) pa_nil)) (pa_cons (pv 1) pa_nil)))) pe_non pe_str))))), ?_⟩
    walk_at "rd"
    refine ⟨_, _, _, rfl, sq, hG, fun J wk => for_it wk (fun i σ H' => ∃ (last : Int) (v4 : Option V), H' = H ∧ σ = [some (.ref l), some (.ref a), some (.ref t), some (.int last), v4] ∧ -1 ≤ last ∧ lotBad ps.length (-1) lot = lotBad ps.length last (lot.drop i)) ⟨-1, none, rfl, rfl, Int.le_refl _, rfl⟩ (fun i σ H' _ h => by obtain ⟨_, _, rfl, _⟩ := h; exact hG) ?_ ?_⟩
    · rintro i x σ H1 H2 hi ⟨last, v4, rfl, rfl, hl1, hbad⟩ ⟨rfl, hx1⟩
      obtain ⟨y, hy, rfl⟩ := get_map hx1
      have hdr : lot.drop i = y :: lot.drop (i + 1) := by
        obtain ⟨hi2, e⟩ := List.getElem?_eq_some_iff.mp hy
        rw [List.drop_eq_getElem_cons hi2, e]
      rw [hdr, lotBad_cons] at hbad
      have bad : ¬ (last < y ∧ y < (ps.length : Int)) → Q (.str "lot") H2 := fun c => by
        rw [if_neg c] at hbad
        unfold wordB at q
        rw [if_pos hbad] at q
        exact q H2 (Same.refl H2)
      walk_at "rd"
      by_cases c1 : last < y
      rotate_left
      · rw [decide_eq_false c1]
        walk_at "rd"
        exact bad fun c => c1 c.1
      rw [decide_eq_true c1]
      walk_at "rd"
      by_cases c2 : y < (ps.length : Int)
      rotate_left
      · rw [decide_eq_false (by rw [hpr.1]; exact c2)]
        walk_at "rd"
        exact bad fun c => c2 c.2
      rw [decide_eq_true (by rw [hpr.1]; exact c2)]
      rw [if_pos ⟨c1, c2⟩] at hbad
      walk_at "rd"
      exact ⟨by omega, hbad⟩
    · rintro σ H2 ⟨last, v4, rfl, rfl, hl1, hbad⟩
      rw [List.length_map, List.drop_length] at hbad
      have hbad2 : lotBad ps.length (-1) lot = false := hbad
      have hin := lotBad_in lot (-1) (Int.le_refl _) hbad2
      walk_at "rd"
      refine ⟨t, _, G, rfl, sq, hG, fun J2 wk2 D hD => lc_it wk2 (fun i H' => Same H2 H' ∧ ∃ acc, H' D = some (.lst acc) ∧ Prs H2 acc (atL ps ((lot.map Int.toNat).take i))) ⟨Same.new hD, [], upd_same, rfl, fun i v hv => by cases hv⟩ (fun i H' _ h => sq.mono h.1 hG) ?_ ?_⟩
      · rintro i x H4 H3 hi ⟨e3, acc, h3, hpa⟩ ⟨rfl, hx1⟩
        obtain ⟨y, hy, rfl⟩ := get_map hx1
        rw [List.length_map] at hi
        obtain ⟨y0, yl⟩ := hin y (List.mem_of_getElem? hy)
        have ey : y = ((y.toNat : Nat) : Int) := (Int.toNat_of_nonneg y0).symm
        have hxk : y.toNat < xs.length := by rw [hpr.1]; omega
        obtain ⟨p, aa, hp1, hxa, hp3⟩ := hpr.2 y.toNat _ (List.getElem?_eq_getElem hxk)
        have hk : (lot.map Int.toNat)[i]? = some y.toNat := by rw [List.getElem?_map, hy]; rfl
        have hat : atI xs y = some (.ref aa) := by rw [ey, ← hxa]; exact atI_nat (List.getElem?_eq_getElem hxk)
        walk_at "rd"
        refine ⟨_, _, _, _, rfl, rfl, e3.seq hl, hat, ?_⟩
        refine ⟨acc, h3, ?_, Same.own e3 hD, acc ++ [.ref aa], upd_same, ?_⟩
        · rw [hpa.1]
          unfold atL
          rw [List.length_map, List.length_take]
          exact Nat.lt_of_le_of_lt (Nat.min_le_left _ _) (Nat.lt_of_lt_of_le (by omega : i < 60) (by decide))
        · rw [atL_take hk, List.getD_eq_getElem?_getD, hp1]
          exact hpa.snoc hp3
      · rintro H3 ⟨e3, acc, h3, hpa⟩
        rw [List.length_map, ← List.length_map (f := Int.toNat), List.take_length] at hpa
        walk_at "rd"
        refine ⟨D, acc, _, rfl, SqL.of h3, hpa.mono e3, fun H4 r4 e4 hr40 hr4 => ?_⟩
        have e24 := e3.trans e4
        walk_at "rd"
        refine ⟨r4, a, _, _, rfl, hr4, e24 _ _ ha, ?_⟩
        unfold wordB at q
        rw [hbad2, if_neg Bool.false_ne_true] at q
        cases hsh : UM.sharp (UM.joinP (atL ps (lot.map Int.toNat))) s with
        | true =>
          rw [hsh] at q
          walk_at "rd"
          exact q _ e24
        | false =>
          rw [hsh] at q
          walk_at "rd"
          exact q _ e24
def spLExc (K : PySem.W.Frag) : Sp := fun vs H Q _ => ∃ (l a t : Addr) (n : Nat) (xs : List V) (ps : List UM.P) (s : UM.P) (ns : List Nat), vs = [.int n, .ref l, .ref a, .ref t] ∧ SqL K H l xs ∧ Prs H xs ps ∧ H a = some (pV s) ∧ SqL K H t (nV ns) ∧ UM.SmallW ns ∧ ps.length ≤ 12 ∧
  ∀ H', Same H H' → Q (wordE n ps s ns) H'
theorem sc_law_exceeds_word : FnScope ["_law_days", "_law_pairs_here", "_law_pair_here", "_law_numbers_here"] ["_law_days", "_law_pairs_here", "_law_pair_here", "_law_numbers_here"] (defScope (top 118)) := ⟨rfl, rfl, rfl, by decide +kernel, rfl, by decide +kernel, by decide +kernel⟩
theorem ok_law_exceeds_word (T : Txt K mg) : Ok P w K mg base 4 (ga K "_law_exceeds_word") ["_law_days", "_law_pairs_here", "_law_pair_here", "_law_numbers_here"] (spLExc K) := by
  obtain ⟨fd, F⟩ := T.d_law_exceeds_word
  obtain ⟨_, G_law_above, b_law_above, k_law_above⟩ := ok_law_above (P := P) (w := w) (base := base) T
  obtain ⟨_, G_law_sum, b_law_sum, k_law_sum⟩ := ok_law_sum (P := P) (w := w) (base := base) T
  obtain ⟨_, G_law_doubt, b_law_doubt, k_law_doubt⟩ := ok_law_doubt (P := P) (w := w) (base := base) T
  refine ⟨_, F.ok sc_law_exceeds_word (fun vs H Q E h => ?_) (fun cdv A outer s H vs Q E hr h => ?_), F.binds fun _ _ _ _ _ _ us hl => match us, hl with | [_, _, _, _], _ => rfl, F.kp⟩
  · obtain ⟨l, a, t, n, xs, ps, s, ns, rfl, _⟩ := h
    rfl
  · obtain ⟨l, a, t, n, xs, ps, s, ns, rfl, hl, hpr, ha, ht, hS, h12, q⟩ := h
    refine ⟨_, (pss_cons (ps_if (pt_cmpR op_ne (pe_callB call_len_seq (by rfl) T.b_len (by decide +kernel) (pa_cons (pv 3) pa_nil)) (pv 0) (nomark _)) (pss_one (ps_ret pe_str)) pss_nil) (pss_one (ps_ret (pe_ifExp (pt_val (pe_call G_law_above (hr.mono (by decide)) rfl T.g__law_above k_law_above b_law_above .nil pass0 (pa_cons (pe_call G_law_doubt (hr.mono (by decide)) rfl T.g__law_doubt k_law_doubt b_law_doubt .nil pass0 (pa_cons (pv 3) (pa_cons (pv 2) pa_nil))) (pa_cons (pe_call G_law_sum (hr.mono (by decide)) rfl T.g__law_sum k_law_sum b_law_sum .nil pass0 (pa_cons (pv 3) (pa_cons (pv 1) pa_nil))) pa_nil)))) pe_non pe_str)))), ?_⟩
    walk_at "rd"
    by_cases hnn : ns.length = n
    · have z1 : decide (V.int ((nV ns).length : Int) = V.int (n : Int)) = true := decide_eq_true (by rw [nV_len, hnn])
      simp only [z1]
      walk_at "rd"
      refine ⟨t, a, ns, s, rfl, ht, hS, ha, fun H2 r2 e2 h2 => ?_⟩
      walk_at "rd"
      refine ⟨t, l, ns, xs, ps, rfl, e2.seq ht, hS, e2.seq hl, hpr.mono e2, h12, fun H3 r3 e3 h3 => ?_⟩
      have hd1 := hS.dbt1 s
      have hd2 := hS.dbt2 s
      have hsm := hS.sum (ps := ps) h12
      walk_at "rd"
      refine ⟨r2, r3, _, _, rfl, e3 _ _ h2, h3, ⟨Nat.lt_trans hd1 (UM.p2lt (by decide)), Nat.lt_trans hd2 (UM.p2lt (by decide)), Nat.lt_trans hsm.1 (UM.p2lt (by decide)), Nat.lt_trans hsm.2 (UM.p2lt (by decide))⟩, ?_⟩
      have e13 := e2.trans e3
      unfold wordE at q
      rw [if_pos hnn] at q
      cases hab : UM.above (UM.dbt ns s) (UM.sumF ns ps) with
      | true =>
        rw [hab] at q
        walk_at "rd"
        exact q H3 e13
      | false =>
        rw [hab] at q
        walk_at "rd"
        exact q H3 e13
    · have z1 : decide (V.int ((nV ns).length : Int) = V.int (n : Int)) = false := vint_ne (by rw [nV_len]; omega)
      simp only [z1]
      walk_at "rd"
      unfold wordE at q
      rw [if_neg hnn] at q
      exact q H (Same.refl H)
end
end U
set_option maxHeartbeats 4100000
namespace U
open PySem L2 He
local macro_rules | `(tactic| walk_at "same") => `(tactic| first | (with_reducible assumption) | exact Same.refl _ | (refine Same.push ?_ (by assumption); walk_at "same") | (refine Same.own ?_ (by assumption); walk_at "same") | (refine Same.trans ?_ (by with_reducible assumption); walk_at "same"))
local macro_rules | `(tactic| walk_at "get") => `(tactic| first | assumption | exact upd_same | (refine get_push (by assumption) ?_; walk_at "get") | (refine get_ne (by assumption) ?_; walk_at "get") | (refine get_ne' (by assumption) ?_; walk_at "get") | (refine Same.get ?_ (by assumption); walk_at "same"))
local macro_rules | `(tactic| walk_at "has") => `(tactic| first | assumption | (refine Has.mono ?_ (by assumption); walk_at "same"))
local macro_rules | `(tactic| walk_at "sql") => `(tactic| first | assumption | exact SqL.of upd_same | exact SqL.of (by assumption) | (refine Same.seq ?_ (by assumption); walk_at "same") | (refine SqL.of ?_; walk_at "get"))
local macro_rules | `(tactic| walk_at "sqt") => `(tactic| first | assumption | exact SqT.of upd_same | exact SqT.of (by assumption) | (refine Same.tup ?_ (by assumption); walk_at "same") | (refine SqT.of ?_; walk_at "get"))
local macro_rules | `(tactic| walk_at "r1") => `(tactic| first | ((with_reducible refine ite_tt ?_ ?_); (focus exact rfl)) | ((with_reducible refine ite_ff ?_ ?_); (focus exact rfl)) | refine ⟨_, rfl, ?_⟩ | refine ⟨_, _, rfl, rfl, ?_⟩ | (refine ⟨rfl, ?_⟩) | refine ⟨(Int.natCast_nonneg _ : (0 : Int) ≤ _), ?_⟩ | refine ⟨_, _, rfl, ?_⟩ | refine ⟨_, _, _, rfl, ?_⟩ | (refine Has.ans (by walk_at "has") ?_) | refine ⟨_, _, _, _, rfl, rfl, (by walk_at "sql"), rfl, ?_⟩ | refine ⟨_, _, rfl, .inl (by walk_at "sql"), ?_⟩ | refine ⟨_, _, rfl, .inr (by walk_at "sqt"), ?_⟩ | refine ⟨_, _, _, _, rfl, rfl, (by walk_at "sqt"), rfl, ?_⟩ | refine ⟨_, _, rfl, (by walk_at "sqt"), rfl, ?_⟩ | refine ⟨_, _, _, _, rfl, (by walk_at "get"), (by assumption), (by assumption), (by walk_at "len"), ?_⟩ | refine ⟨_, _, _, _, _, rfl, (by walk_at "get"), (by assumption), (by assumption), (by walk_at "lk"), ?_⟩)
local macro_rules | `(tactic| walk_at "rd") => `(tactic| repeat walk_at "r1")
local macro_rules | `(tactic| walk_at "lk") => `(tactic| first | (with_reducible exact lk_hit) | (refine lk_miss (by decide +kernel) ?_; walk_at "lk") | rfl)
local macro_rules | `(tactic| walk_at "len") => `(tactic| (refine Nat.lt_of_le_of_lt (m := 60) ?_ (by decide); (repeat (refine len_put ?_)); exact Nat.zero_le _))
local macro_rules | `(tactic| walk_at "len9") => `(tactic| (refine Nat.le_trans (m := 60) ?_ (by decide); (repeat (refine len_put ?_)); exact Nat.zero_le _))
local macro_rules | `(tactic| walk_at "own") => `(tactic| first | assumption | (refine Same.own ?_ (by assumption); walk_at "own"))

section
variable {P : Program} {w : World} {base : Heap}
variable {K : PySem.W.Frag} {mg : Str → Option Value}
def spLMarks (K : PySem.W.Frag) : Sp := fun vs H Q _ => ∃ (n : Nat), vs = [.int n] ∧ Four n ∧ ∀ H' r, Same H H' → MarksAt K H' r n → Q (.ref r) H'
theorem sc_law_marks : FnScope ["_law_days"] ["_law_days"] (defScope (top 105)) := ⟨rfl, rfl, rfl, by decide +kernel, rfl, by decide +kernel, by decide +kernel⟩
theorem ok_law_marks (T : Txt K mg) : Ok P w K mg base 4 (ga K "_law_marks") ["_law_days"] (spLMarks K) := by
  obtain ⟨fd, F⟩ := T.d_law_marks
  obtain ⟨_, G_Marks_init, b_Marks_init, k_Marks_init⟩ := ok_Marks_init (P := P) (w := w) (base := base) T
  refine ⟨_, F.ok sc_law_marks (fun vs H Q E h => ?_) (fun cdv A outer s H vs Q E hr h => ?_), F.binds fun _ _ _ _ _ _ us hl => match us, hl with | [_], _ => rfl, F.kp⟩
  · obtain ⟨n, rfl, _⟩ := h
    rfl
  · obtain ⟨n, rfl, hn, q⟩ := h
    refine ⟨_, (pss_one (ps_ret (pe_make T.mk_Marks G_Marks_init (hr.mono (by decide)) rfl T.g_Marks b_Marks_init .nil pass0 (pa_cons (pe_slice sl_list (pe_lst (pa_cons pe_str (pa_cons pe_str (pa_cons pe_str (pa_cons pe_str pa_nil))))) po_none (po_some (pe_dget (Nat.lt_of_le_of_lt (Nat.add_le_add_left (by decide) _) hr.units) (pe_disp (pps_cons pe_int pe_int (pps_cons pe_int pe_int (pps_cons pe_int pe_int (pps_cons pe_int pe_int pps_nil)))) (by rfl) (by rfl) (fun z => by cases z) (by decide)) (pv 0) (fun _ _ => rfl)))) pa_nil)))), ?_⟩
    obtain ⟨k, hk1, hk4, en, hv⟩ : ∃ k : Nat, 1 ≤ k ∧ k ≤ 4 ∧ n = 2 ^ k ∧ valV (mergeK [] [((Sum.inl 2 : Key), V.int 1), (Sum.inl 4, .int 2), (Sum.inl 8, .int 3), (Sum.inl 16, .int 4)]) (Sum.inl (n : Int)) = some (.int (k : Int)) := by
      rcases hn with rfl | rfl | rfl | rfl
      · exact ⟨1, by decide, by decide, rfl, rfl⟩
      · exact ⟨2, by decide, by decide, rfl, rfl⟩
      · exact ⟨3, by decide, by decide, rfl, rfl⟩
      · exact ⟨4, by decide, by decide, rfl, rfl⟩
    walk_at "rd"
    refine ⟨by show 4 ≤ sizeLine; decide, fun a ha => ?_⟩
    have e1 : Same H (upd H a (.lst [.str "a", .str "b", .str "c", .str "d"])) := Same.new ha
    have h1 : upd H a (.lst [.str "a", .str "b", .str "c", .str "d"]) a = some (.lst (sV ABCD)) := upd_same
    revert e1 h1
    generalize upd H a (.lst [.str "a", .str "b", .str "c", .str "d"]) = H1
    intro e1 h1
    intro d hd
    refine ⟨upd_same, [(Sum.inl 2, .int 1), (Sum.inl 4, .int 2), (Sum.inl 8, .int 3), (Sum.inl 16, .int 4)], rfl, by decide, ?_⟩
    generalize mergeK [] [((Sum.inl 2 : Key), V.int 1), (Sum.inl 4, .int 2), (Sum.inl 8, .int 3), (Sum.inl 16, .int 4)] = kvs at hv ⊢
    have e2 : Same H1 (upd (upd H1 d (.dK [])) d (.dK kvs)) := Same.own (Same.new hd) hd
    have h2 : upd (upd H1 d (.dK [])) d (.dK kvs) d = some (.dK kvs) := upd_same
    revert e2 h2
    generalize upd (upd H1 d (.dK [])) d (.dK kvs) = H2
    intro e2 h2
    walk_at "rd"
    refine ⟨d, _, rfl, hv ▸ DGet.k (k := Sum.inl (n : Int)) h2, ?_⟩
    refine ⟨_, rfl, ?_⟩
    refine ⟨a, _, rfl, SqL.of (e2 _ _ h1), fun l hl => ?_⟩
    have ec : cutV (sV ABCD) none (some (k : Int)) = sV (ABCD.take k) := by
      match k, hk1, hk4 with
      | 1, _, _ => rfl
      | 2, _, _ => rfl
      | 3, _, _ => rfl
      | 4, _, _ => rfl
    rw [ec]
    have e3 : Same H2 (upd H2 l (.lst (sV (ABCD.take k)))) := Same.new hl
    walk_at "rd"
    intro x dx nx ndx nex
    exact ⟨_, x, dx, l, k, rfl, upd_same, Same.mk nx ndx, nx, SqL.of upd_same, hk1, hk4, fun H3 e4 hm => ⟨rfl, q H3 x ((e1.trans e2).trans (e3.trans e4)) (by rw [en]; exact hm)⟩⟩
theorem ixN_at {n d : Nat} (h : d < n) : ixN n (d : Int) = some d := by
  unfold ixN
  rw [if_pos (by omega)]
  simp [h]
theorem nV_set (ns : List Nat) (d x : Nat) : (nV ns).set d (.int (x : Int)) = nV (ns.set d x) := by
  unfold nV
  rw [List.map_set]
/-- numbers at L, made since H -/
def NumI (z : Addr) (H : Hp) (n : Nat) (k : V) : L2.St → Hp → Prop := fun σ H' => ∃ (L : Addr) (ns : List Nat) (v4 : Option V), σ = [some (.ref z), some (.int n), some k, some (.ref L), v4, none] ∧ FW z H H' ∧ H L = none ∧ H' L = some (.lst (nV ns)) ∧ ns.length = n ∧ ∀ x ∈ ns, x < 2 ^ 396
def spLNums : Sp := fun vs H Q _ => ∃ (z : Addr) (n : Nat), vs = [.ref z, .int n] ∧ WS H z ∧ 0 < n ∧ n ≤ 16 ∧
  ∀ H' r ns, FW z H H' → drp z H' r = some (.lst (nV ns)) → ns.length = n → UM.SmallW ns → (∃ x ∈ ns, 0 < x) → Q (.ref r) H'
theorem sc_law_numbers : FnScope ["_law_well_here", "_law_days", "_law_kind", "_law_numbers_here", "_law_base", "_law_day"] ["_law_well_here", "_law_days"] (defScope (top 109)) := ⟨rfl, rfl, rfl, by decide +kernel, rfl, by decide +kernel, by decide +kernel⟩
theorem ok_law_numbers (T : Txt K mg) : Ok P w K mg base 2 (ga K "_law_numbers") ["_law_well_here", "_law_days"] (spLNums) := by
  obtain ⟨fd, F⟩ := T.d_law_numbers
  obtain ⟨_, G_law_drawn, b_law_drawn, k_law_drawn⟩ := ok_law_drawn (P := P) (w := w) (base := base) T
  obtain ⟨_, G_law_power, b_law_power, k_law_power⟩ := ok_law_power (P := P) (w := w) (base := base) T
  refine ⟨_, F.ok sc_law_numbers (fun vs H Q E h => ?_) (fun cdv A outer s H vs Q E hr h => ?_), F.binds fun _ _ _ _ _ _ us hl => match us, hl with | [_, _], _ => rfl, F.kp⟩
  · obtain ⟨z, n, rfl, _⟩ := h
    rfl
  · obtain ⟨z, n, rfl, hw, hn0, hn, q⟩ := h
    refine ⟨_, (pss_cons (ps_set (i := 2) sc_law_numbers.nd rfl (Or.inr rfl) (pe_call G_law_drawn (hr.mono (by decide)) rfl T.g__law_drawn k_law_drawn b_law_drawn .nil pass0 (pa_cons (pv 0) (pa_cons pe_int pa_nil))))
      (pss_cut (ps_setLc (i := 3) (own := [("_law_day", 5)]) rfl sc_law_numbers.nd rfl rfl (sw_true rfl rfl rfl (by decide +kernel)) (pi_rangeN rfl T.b_range (pa_cons (pv 1) pa_nil)) (blkOk_by (own := [("_law_day", 5)]) (N := ["_law_well_here", "_law_days", "_law_kind", "_law_numbers_here", "_law_base", "_law_day"]) (sc := defScope (top 109)) (by decide +kernel)) (fun _ _ _ _ _ => (pg_name (i := 5) sc_law_numbers.nd rfl (Or.inl rfl))) (fun _ _ _ _ _ => pts_nil) (fun _ _ _ _ _ => (pe_call G_law_drawn (hr.mono (by decide)) rfl T.g__law_drawn k_law_drawn b_law_drawn .nil pass0 (pa_cons (pv 0) (pa_cons (kix (K := K) (pe_lst (pa_cons pe_int (pa_cons pe_int (pa_cons pe_int (pa_cons (pe_op op_pow pe_int pe_int) pa_nil))))) (pv 2) (fun _ _ => rfl) rfl) pa_nil)))))
      (pss_cut (ps_if (pt_cmpR op_eq (pe_call G_law_drawn (hr.mono (by decide)) rfl T.g__law_drawn k_law_drawn b_law_drawn .nil pass0 (pa_cons (pv 0) (pa_cons pe_int pa_nil))) pe_int (nomark _)) (pss_cons (ps_set (i := 4) sc_law_numbers.nd rfl (Or.inr rfl) (pe_op op_add pe_int (pe_call G_law_drawn (hr.mono (by decide)) rfl T.g__law_drawn k_law_drawn b_law_drawn .nil pass0 (pa_cons (pv 0) (pa_cons pe_int pa_nil))))) (pss_one (ps_setLc (i := 3) (own := [("_law_day", 5)]) rfl sc_law_numbers.nd rfl rfl (sw_true rfl rfl rfl (by decide +kernel)) (pi_rangeN rfl T.b_range (pa_cons (pv 1) pa_nil)) (blkOk_by (own := [("_law_day", 5)]) (N := ["_law_well_here", "_law_days", "_law_kind", "_law_numbers_here", "_law_base", "_law_day"]) (sc := defScope (top 109)) (by decide +kernel)) (fun _ _ _ _ _ => (pg_name (i := 5) sc_law_numbers.nd rfl (Or.inl rfl))) (fun _ _ _ _ _ => pts_nil) (fun _ _ _ _ _ => (pe_call G_law_power (hr.mono (by decide)) rfl T.g__law_power k_law_power b_law_power .nil pass0 (pa_cons (pv 4) (pa_cons (pe_call G_law_drawn (hr.mono (by decide)) rfl T.g__law_drawn k_law_drawn b_law_drawn .nil pass0 (pa_cons (pv 0) (pa_cons pe_int pa_nil))) pa_nil))))))) pss_nil)
      (pss_cut (ps_if (pt_cmpR op_eq (pe_call G_law_drawn (hr.mono (by decide)) rfl T.g__law_drawn k_law_drawn b_law_drawn .nil pass0 (pa_cons (pv 0) (pa_cons pe_int pa_nil))) pe_int (nomark _)) (pss_one (ps_asg pe_int (pg_sub (pv 3) (pe_call G_law_drawn (hr.mono (by decide)) rfl T.g__law_drawn k_law_drawn b_law_drawn .nil pass0 (pa_cons (pv 0) (pa_cons (pv 1) pa_nil))) set_list))) pss_nil)
      (pss_cut (ps_if (pt_cmpR op_eq (pe_callB (cr_max rfl) (by rfl) T.b_max (by decide +kernel) (pa_cons (pv 3) pa_nil)) pe_int (nomark _)) (pss_one (ps_asg (pe_op op_add pe_int (pe_call G_law_drawn (hr.mono (by decide)) rfl T.g__law_drawn k_law_drawn b_law_drawn .nil pass0 (pa_cons (pv 0) (pa_cons pe_int pa_nil)))) (pg_sub (pv 3) (pe_call G_law_drawn (hr.mono (by decide)) rfl T.g__law_drawn k_law_drawn b_law_drawn .nil pass0 (pa_cons (pv 0) (pa_cons (pv 1) pa_nil))) set_list))) pss_nil) (pss_one (ps_ret (pv 3)))))))), ?_⟩
    walk_at "rd"
    refine ⟨hw, by decide, small60 (by decide), fun H1 k f1 hk => ?_⟩
    walk_at "rd"
    refine ⟨NumI z H n (.int (k : Nat)), ?_, ?_⟩
    · walk_at "rd"
      refine ⟨by omega, fun D hD => lc_it (walk_rangeN (n := n)) (fun i H' => FW z H1 H' ∧ ∃ ns, H' D = some (.lst (nV ns)) ∧ ns.length = i ∧ ∀ x ∈ ns, x < 2 ^ 396) ⟨(FW.refl f1.ws).push hD, [], upd_same, rfl, fun x h => by cases h⟩ (fun _ _ _ _ => trivial) ?_ ?_⟩
      · rintro i x H3 H2 hi ⟨f2, ns, h2, hl2, hb⟩ ⟨rfl, rfl⟩
        walk_at "rd"
        refine ⟨⟨by decide, by decide, by decide⟩, ?_⟩
        walk_at "rd"
        refine ⟨by show 4 ≤ sizeLine; decide, fun T hT => ?_⟩
        obtain ⟨many, hm, m0, m1⟩ : ∃ many : Nat, [V.int 3, .int 12, .int 1000, .int (10 ^ Int.toNat 30)][k]? = some (.int (many : Int)) ∧ 0 < many ∧ many ≤ 10 ^ 30 := by
          match k, hk with
          | 0, _ => exact ⟨3, rfl, by decide, by decide⟩
          | 1, _ => exact ⟨12, rfl, by decide, by decide⟩
          | 2, _ => exact ⟨1000, rfl, by decide, by decide⟩
          | 3, _ => exact ⟨10 ^ 30, rfl, by decide, by decide⟩
        have f3 := f2.push hT (o := .lst [V.int 3, .int 12, .int 1000, .int (10 ^ Int.toNat 30)])
        have zD := f1.ws.ne hD
        have nT : D ≠ T := ne_of_none h2 hT
        walk_at "rd"
        refine ⟨T, _, _, _, rfl, rfl, SqL.of upd_same, atI_nat hm, ?_⟩
        walk_at "rd"
        refine ⟨f3.ws, m0, Nat.lt_of_le_of_lt m1 (by decide : 10 ^ 30 < 2 ^ 8000), fun H4 d f4 hd => ?_⟩
        refine ⟨_, f4.get zD (get_push hT h2), by rw [nV_len, hl2]; exact Nat.lt_of_lt_of_le (by omega : i < 16) (by decide), (f3.trans f4).put zD hD, ns ++ [d], ?_, by rw [List.length_append, hl2]; rfl, fun x hx => ?_⟩
        · rw [upd_same]
          unfold nV
          rw [List.map_append]
          rfl
        · rcases List.mem_append.mp hx with h | h
          · exact hb x h
          · rw [List.mem_singleton.mp h]
            exact Nat.lt_of_lt_of_le (Nat.lt_of_lt_of_le hd m1) (by decide)
      · rintro H2 ⟨f2, ns, h2, hl2, hb⟩
        exact ⟨D, ns, none, rfl, f1.trans f2, f1.free hD, h2, hl2, hb⟩
    clear f1
    · rintro σ H2 ⟨L, ns, v4, rfl, f2, hL0, hL, hnl, hb⟩
      refine ⟨NumI z H n (.int (k : Nat)), ?_, ?_⟩
      · walk_at "rd"
        refine ⟨f2.ws, by decide, small60 (by decide), fun H3 d3 f3 hd3 => ?_⟩
        have f23 := f2.trans f3
        have zL := hw.ne hL0
        walk_at "rd"
        by_cases h30 : d3 = 0
        rotate_left
        · rw [vint_ne (show (d3 : Int) ≠ 0 by omega)]
          walk_at "rd"
          exact ⟨L, ns, v4, rfl, f23, hL0, f3.get zL hL, hnl, hb⟩
        subst h30
        walk_at "rd"
        refine ⟨f3.ws, by decide, small60 (by decide), fun H4 d4 f4 hd4 => ?_⟩
        have f24 := f23.trans f4
        have hd40 : d4 < 40 := hd4
        have eb : (2 : Int) + (d4 : Int) = ((2 + d4 : Nat) : Int) := by omega
        walk_at "rd"
        simp only [eb]
        refine ⟨by omega, fun D hD => lc_it (walk_rangeN (n := n)) (fun i H' => FW z H4 H' ∧ ∃ ns, H' D = some (.lst (nV ns)) ∧ ns.length = i ∧ ∀ x ∈ ns, x < 2 ^ 396) ⟨(FW.refl f4.ws).push hD, [], upd_same, rfl, fun x h => by cases h⟩ (fun _ _ _ _ => trivial) ?_ ?_⟩
        · rintro i x H6 H5 hi ⟨f5, ns, h5, hl5, hb5⟩ ⟨rfl, rfl⟩
          walk_at "rd"
          refine ⟨f5.ws, by decide, small60 (by decide), fun H7 d7 f7 hd7 => ?_⟩
          have zD := f4.ws.ne hD
          have hd76 : d7 < 6 := hd7
          walk_at "rd"
          refine ⟨Nat.lt_of_lt_of_le (by omega : 2 + d4 < 64) (by decide), by omega, ?_⟩
          refine ⟨_, f7.get zD h5, by rw [nV_len, hl5]; exact Nat.lt_of_lt_of_le (by omega : i < 16) (by decide), (f5.trans f7).put zD hD, ns ++ [(2 + d4) ^ d7], ?_, by rw [List.length_append, hl5]; rfl, fun x hx => ?_⟩
          · rw [upd_same]
            unfold nV
            rw [List.map_append]
            rfl
          · rcases List.mem_append.mp hx with h | h
            · exact hb5 x h
            · rw [List.mem_singleton.mp h]
              refine Nat.lt_of_le_of_lt (Nat.pow_le_pow_left (show 2 + d4 ≤ 2 ^ 6 by have : (2 : Nat) ^ 6 = 64 := rfl; omega) d7) ?_
              rw [← Nat.pow_mul]
              exact UM.p2lt (by omega)
        · rintro H5 ⟨f5, ns, h5, hl5, hb5⟩
          exact ⟨D, ns, _, rfl, f24.trans f5, f24.free hD, h5, hl5, hb5⟩
      · clear f2 hL0 hL hnl hb
        rintro σ H2 ⟨L, ns, v4, rfl, f2, hL0, hL, hnl, hb⟩
        refine ⟨NumI z H n (.int (k : Nat)), ?_, ?_⟩
        · walk_at "rd"
          refine ⟨f2.ws, by decide, small60 (by decide), fun H3 d3 f3 hd3 => ?_⟩
          have f23 := f2.trans f3
          have zL := hw.ne hL0
          walk_at "rd"
          by_cases h30 : d3 = 0
          rotate_left
          · rw [vint_ne (show (d3 : Int) ≠ 0 by omega)]
            walk_at "rd"
            exact ⟨L, ns, v4, rfl, f23, hL0, f3.get zL hL, hnl, hb⟩
          subst h30
          walk_at "rd"
          refine ⟨f3.ws, hn0, Nat.lt_of_le_of_lt hn (by decide : 16 < 2 ^ 8000), fun H4 d4 f4 hd4 => ?_⟩
          refine ⟨L, _, _, d4, rfl, rfl, f4.get zL (f3.get zL hL), ixN_at (by rw [nV_len, hnl]; exact hd4), L, ns.set d4 0, v4, rfl, (f23.trans f4).put zL hL0, hL0, ?_, by rw [List.length_set]; exact hnl, fun x hx => ?_⟩
          · rw [upd_same]
            exact congrArg (fun y => some (HO.lst y)) (nV_set ns d4 0)
          · rcases List.mem_or_eq_of_mem_set hx with h | h
            · exact hb x h
            · rw [h]; decide
        · clear f2 hL0 hL hnl hb
          rintro σ H2 ⟨L, ns, v4, rfl, f2, hL0, hL, hnl, hb⟩
          have zL := hw.ne hL0
          refine ⟨fun σ H' => ∃ (ns : List Nat), σ = [some (.ref z), some (.int n), some (.int (k : Nat)), some (.ref L), v4, none] ∧ FW z H H' ∧ H' L = some (.lst (nV ns)) ∧ ns.length = n ∧ (∀ x ∈ ns, x < 2 ^ 396) ∧ ∃ x ∈ ns, 0 < x, ?_, ?_⟩
          · walk_at "rd"
            refine ⟨L, ns.map fun (d : Nat) => (d : Int), rfl, SqL.of (by rw [List.map_map]; exact hL), by rw [List.length_map]; omega, fun m hm hmx => ?_⟩
            obtain ⟨m0, hm0, rfl⟩ := List.mem_map.mp hm
            walk_at "rd"
            by_cases hz : m0 = 0
            rotate_left
            · rw [vint_ne (show (m0 : Int) ≠ 0 by omega)]
              walk_at "rd"
              exact ⟨ns, rfl, f2, hL, hnl, hb, m0, hm0, Nat.pos_of_ne_zero hz⟩
            subst hz
            walk_at "rd"
            refine ⟨f2.ws, by decide, small60 (by decide), fun H3 d3 f3 hd3 => ?_⟩
            have ed : (1 : Int) + (d3 : Int) = ((1 + d3 : Nat) : Int) := by omega
            walk_at "rd"
            simp only [ed]
            refine ⟨f3.ws, hn0, Nat.lt_of_le_of_lt hn (by decide : 16 < 2 ^ 8000), fun H4 d4 f4 hd4 => ?_⟩
            have hlt : d4 < ns.length := by rw [hnl]; exact hd4
            refine ⟨L, _, _, d4, rfl, rfl, f4.get zL (f3.get zL hL), ixN_at (by rw [nV_len]; exact hlt), ns.set d4 (1 + d3), trivial, ((f2.trans f3).trans f4).put zL hL0, ?_, by rw [List.length_set]; exact hnl, fun x hx => ?_, 1 + d3, ?_, by omega⟩
            · rw [upd_same, nV_set]
            · rcases List.mem_or_eq_of_mem_set hx with h | h
              · exact hb x h
              · rw [h]; have hd39 : d3 < 9 := hd3; exact Nat.lt_of_lt_of_le (by omega : 1 + d3 < 16) (by decide)
            · exact List.mem_set hlt _
          · rintro σ H3 ⟨ns, rfl, f3, hL3, hnl3, hb3, hx3⟩
            walk_at "rd"
            exact q H3 L ns f3 (by rw [drp_ne zL.symm]; exact hL3) hnl3 ⟨by omega, hb3⟩ hx3
end
end U
set_option maxHeartbeats 4100000
namespace U
open PySem L2 He
local macro_rules | `(tactic| walk_at "same") => `(tactic| first | (with_reducible assumption) | exact Same.refl _ | (refine Same.push ?_ (by assumption); walk_at "same") | (refine Same.own ?_ (by assumption); walk_at "same") | (refine Same.trans ?_ (by with_reducible assumption); walk_at "same"))
local macro_rules | `(tactic| walk_at "get") => `(tactic| first | assumption | exact upd_same | (refine get_push (by assumption) ?_; walk_at "get") | (refine get_ne (by assumption) ?_; walk_at "get") | (refine get_ne' (by assumption) ?_; walk_at "get") | (refine Same.get ?_ (by assumption); walk_at "same"))
local macro_rules | `(tactic| walk_at "has") => `(tactic| first | assumption | (refine Has.mono ?_ (by assumption); walk_at "same"))
local macro_rules | `(tactic| walk_at "sql") => `(tactic| first | assumption | exact SqL.of upd_same | exact SqL.of (by assumption) | (refine Same.seq ?_ (by assumption); walk_at "same") | (refine SqL.of ?_; walk_at "get"))
local macro_rules | `(tactic| walk_at "sqt") => `(tactic| first | assumption | exact SqT.of upd_same | exact SqT.of (by assumption) | (refine Same.tup ?_ (by assumption); walk_at "same") | (refine SqT.of ?_; walk_at "get"))
local macro_rules | `(tactic| walk_at "r1") => `(tactic| first | ((with_reducible refine ite_tt ?_ ?_); (focus exact rfl)) | ((with_reducible refine ite_ff ?_ ?_); (focus exact rfl)) | refine ⟨_, rfl, ?_⟩ | refine ⟨_, _, rfl, rfl, ?_⟩ | (refine ⟨rfl, ?_⟩) | refine ⟨(Int.natCast_nonneg _ : (0 : Int) ≤ _), ?_⟩ | refine ⟨_, _, rfl, ?_⟩ | refine ⟨_, _, _, rfl, ?_⟩ | (refine Has.ans (by walk_at "has") ?_) | refine ⟨_, _, _, _, rfl, rfl, (by walk_at "sql"), rfl, ?_⟩ | refine ⟨_, _, rfl, .inl (by walk_at "sql"), ?_⟩ | refine ⟨_, _, rfl, .inr (by walk_at "sqt"), ?_⟩ | refine ⟨_, _, _, _, rfl, rfl, (by walk_at "sqt"), rfl, ?_⟩ | refine ⟨_, _, rfl, (by walk_at "sqt"), rfl, ?_⟩ | refine ⟨_, _, _, _, rfl, (by walk_at "get"), (by assumption), (by assumption), (by walk_at "len"), ?_⟩ | refine ⟨_, _, _, _, _, rfl, (by walk_at "get"), (by assumption), (by assumption), (by walk_at "lk"), ?_⟩)
local macro_rules | `(tactic| walk_at "rd") => `(tactic| repeat walk_at "r1")
local macro_rules | `(tactic| walk_at "lk") => `(tactic| first | (with_reducible exact lk_hit) | (refine lk_miss (by decide +kernel) ?_; walk_at "lk") | rfl)
local macro_rules | `(tactic| walk_at "len") => `(tactic| (refine Nat.lt_of_le_of_lt (m := 60) ?_ (by decide); (repeat (refine len_put ?_)); exact Nat.zero_le _))
local macro_rules | `(tactic| walk_at "len9") => `(tactic| (refine Nat.le_trans (m := 60) ?_ (by decide); (repeat (refine len_put ?_)); exact Nat.zero_le _))
local macro_rules | `(tactic| walk_at "own") => `(tactic| first | assumption | (refine Same.own ?_ (by assumption); walk_at "own"))

section
variable {P : Program} {w : World} {base : Heap}
variable {K : PySem.W.Frag} {mg : Str → Option Value}
theorem small_pair {ns : List Nat} (hS : UM.SmallW ns) (s : UM.P) {qs : List UM.P} (h : qs.length ≤ 12) : (UM.dbt ns s).1 < 2 ^ 8000 ∧ (UM.dbt ns s).2 < 2 ^ 8000 ∧ (UM.sumF ns qs).1 < 2 ^ 8000 ∧ (UM.sumF ns qs).2 < 2 ^ 8000 :=
  ⟨Nat.lt_trans (hS.dbt1 s) (UM.p2lt (by decide)), Nat.lt_trans (hS.dbt2 s) (UM.p2lt (by decide)), Nat.lt_trans (hS.sum h).1 (UM.p2lt (by decide)), Nat.lt_trans (hS.sum h).2 (UM.p2lt (by decide))⟩
def spLBR (K : PySem.W.Frag) : Sp := fun vs H Q _ => ∃ (z pl a r : Addr) (n : Nat) (xs : List V) (ps : List UM.P) (s : UM.P) (t : Addr) (lot : List Nat), vs = [.ref z, .int n, .ref pl, .ref a, .ref r] ∧ WS H z ∧ SqL K (drp z H) pl xs ∧ Prs (drp z H) xs ps ∧ drp z H a = some (pV s) ∧
  BoundAt0 K (drp z H) r t ∧ drp z H t = some (.tup (nV lot)) ∧ 0 < n ∧ n ≤ 16 ∧ ps.length ≤ 12 ∧ lot.length ≤ 12 ∧ (∀ i ∈ lot, i < ps.length) ∧ wordB ps s (lot.map fun (d : Nat) => (d : Int)) = .non ∧ (∀ ns, UM.above (UM.dbt ns s) (UM.sumF ns (atL ps lot)) = false) ∧
  ∀ H', FW z H H' → Q (.bl true) H'
theorem sc_law_bounded_right : FnScope ["_law_well_here", "_law_days", "_law_pairs_here", "_law_pair_here", "_law_told", "_law_turn", "_law_numbers_here", "_law_k"] ["_law_well_here", "_law_days", "_law_pairs_here", "_law_pair_here", "_law_told"] (defScope (top 119)) := ⟨rfl, rfl, rfl, by decide +kernel, rfl, by decide +kernel, by decide +kernel⟩
theorem ok_law_bounded_right (T : Txt K mg) : Ok P w K mg base 4 (ga K "_law_bounded_right") ["_law_well_here", "_law_days", "_law_pairs_here", "_law_pair_here", "_law_told"] (spLBR K) := by
  obtain ⟨fd, F⟩ := T.d_law_bounded_right
  obtain ⟨_, G_law_lot_word, b_law_lot_word, k_law_lot_word⟩ := ok_law_lot_word (P := P) (w := w) (base := base) T
  obtain ⟨_, G_law_numbers, b_law_numbers, k_law_numbers⟩ := ok_law_numbers (P := P) (w := w) (base := base) T
  obtain ⟨_, G_law_above, b_law_above, k_law_above⟩ := ok_law_above (P := P) (w := w) (base := base) T
  obtain ⟨_, G_law_sum, b_law_sum, k_law_sum⟩ := ok_law_sum (P := P) (w := w) (base := base) T
  obtain ⟨_, G_law_doubt, b_law_doubt, k_law_doubt⟩ := ok_law_doubt (P := P) (w := w) (base := base) T
  refine ⟨_, F.ok sc_law_bounded_right (fun vs H Q E h => ?_) (fun cdv A outer s H vs Q E hr h => ?_), F.binds fun _ _ _ _ _ _ us hl => match us, hl with | [_, _, _, _, _], _ => rfl, F.kp⟩
  · obtain ⟨z, pl, a, r, n, xs, ps, s, t, lot, rfl, _⟩ := h
    rfl
  · obtain ⟨z, pl, a, r, n, xs, ps, s, t, lot, rfl, hw, hl, hpr, ha, hbd, ht, hn0, hn, h12, hl12, hin, hwd, hbb, q⟩ := h
    refine ⟨_, (pss_cons (ps_if (PW.pt (pw_or (pt_not (pt_val (pe_callB call_isi (by rfl) T.b_isinstance (by decide +kernel) (pa_cons (pe_fld (pv 4) rfl) (pa_cons (pe_bltn (v := .ty "tuple") rfl T.b_tuple (by decide +kernel) rfl) pa_nil))))) (pw_or1 (pt_cmpR (op_neD hr.units) (pe_lc (own := [("_law_k", 7)]) rfl sc_law_bounded_right.nd (pi_tup (pe_fld (pv 4) rfl)) (blkOk_by (own := [("_law_k", 7)]) (N := ["_law_well_here", "_law_days", "_law_pairs_here", "_law_pair_here", "_law_told", "_law_turn", "_law_numbers_here", "_law_k"]) (sc := defScope (top 119)) (by decide +kernel)) (fun _ _ _ _ _ => (pg_name (i := 7) sc_law_bounded_right.nd rfl (Or.inl rfl))) (fun _ _ _ _ _ => pts_one (PW.pt (pw_or (pt_not (pt_val (pe_callB (kisi (K := K) rfl) (by rfl) T.b_isinstance (by decide +kernel) (pa_cons (pv 7) (pa_cons (pe_bltn (v := .ty "int") rfl T.b_int (by decide +kernel) rfl) pa_nil))))) (pw_or1 (pt_val (pe_callB (kisi (K := K) rfl) (by rfl) T.b_isinstance (by decide +kernel) (pa_cons (pv 7) (pa_cons (pe_bltn (v := .ty "bool") rfl T.b_bool (by decide +kernel) rfl) pa_nil)))))))) (fun _ _ _ _ _ => (pv 7))) (pe_lst pa_nil) (nomark _))))) (pss_one (ps_ret pe_bl)) pss_nil)
      (pss_cons (ps_if (pt_cmpR op_notN (pe_call G_law_lot_word (hr.mono (by decide)) rfl T.g__law_lot_word k_law_lot_word b_law_lot_word .nil pass0 (pa_cons (pv 2) (pa_cons (pv 3) (pa_cons (pe_fld (pv 4) rfl) pa_nil)))) pe_non (nomark _)) (pss_one (ps_ret pe_bl)) pss_nil)
      (pss_cons (ps_for PassesOwn.never rfl (pi_rangeN rfl T.b_range (pa_cons pe_int pa_nil)) (pg_name (i := 5) sc_law_bounded_right.nd rfl (Or.inl rfl)) (pss_cons (ps_set (i := 6) sc_law_bounded_right.nd rfl (Or.inl rfl) (pe_call G_law_numbers (hr.mono (by decide)) rfl T.g__law_numbers k_law_numbers b_law_numbers .nil pass0 (pa_cons (pv 0) (pa_cons (pv 1) pa_nil)))) (pss_one (ps_if (pt_val (pe_call G_law_above (hr.mono (by decide)) rfl T.g__law_above k_law_above b_law_above .nil pass0 (pa_cons (pe_call G_law_doubt (hr.mono (by decide)) rfl T.g__law_doubt k_law_doubt b_law_doubt .nil pass0 (pa_cons (pv 6) (pa_cons (pv 3) pa_nil))) (pa_cons (pe_call G_law_sum (hr.mono (by decide)) rfl T.g__law_sum k_law_sum b_law_sum .nil pass0 (pa_cons (pv 6) (pa_cons (pe_lc (own := [("_law_k", 7)]) rfl sc_law_bounded_right.nd (pi_tup (pe_fld (pv 4) rfl)) (blkOk_by (own := [("_law_k", 7)]) (N := ["_law_well_here", "_law_days", "_law_pairs_here", "_law_pair_here", "_law_told", "_law_turn", "_law_numbers_here", "_law_k"]) (sc := defScope (top 119)) (by decide +kernel)) (fun _ _ _ _ _ => (pg_name (i := 7) sc_law_bounded_right.nd rfl (Or.inl rfl))) (fun _ _ _ _ _ => pts_nil) (fun _ _ _ _ _ => (kix (K := K) (pv 2) (pv 7) (fun _ _ => rfl) rfl))) pa_nil))) pa_nil)))) (pss_one (ps_ret pe_bl)) pss_nil)))) (pss_one (ps_ret pe_bl))))), ?_⟩
    have b1 : BoundAt0 K H r t := hbd.mono drp_same
    have t1 : H t = some (.tup (nV lot)) := drp_same _ _ ht
    have f1 := b1.f_lot T
    walk_at "rd"
    refine ⟨_, _, _, _, true, rfl, .ty _, .base (.tup t1), kit_ty (by decide +kernel), ?_⟩
    walk_at "rd"
    refine ⟨⟨_, SqT.of t1⟩, fun D hD => lc_it (walk_tup (K := K) (a := t) (xs := nV lot)) (fun i H' => Same H H' ∧ H' D = some (.lst [])) ⟨Same.new hD, upd_same⟩ (fun i H' _ h => SqT.of (h.1 _ _ t1)) ?_ ?_⟩
    · rintro i x H3 H2 hi ⟨e2, h2⟩ ⟨rfl, hx1⟩
      obtain ⟨k, hk, rfl⟩ := get_map hx1
      walk_at "rd"
      refine ⟨_, _, _, _, true, rfl, .ty _, .base (.int _), kit_ty (by decide +kernel), ?_⟩
      walk_at "rd"
      refine ⟨_, _, _, _, false, rfl, .ty _, .base (.int _), kit_ty (by decide +kernel), ?_⟩
      walk_at "rd"
      exact ⟨e2, h2⟩
    · rintro H2 ⟨e2, h2⟩
      walk_at "rd"
      refine ⟨by show 0 ≤ sizeLine; decide, fun eb heb => ne_empty (SqL.of (get_push heb h2)) (fun v hv => by cases hv) (SqL.of upd_same) ?_⟩
      have e3 : Same H (upd H2 eb (.lst [])) := Same.push e2 heb
      revert e3
      generalize upd H2 eb (.lst []) = H3
      intro e3
      have f3 : FW z H H3 := FW.of hw e3
      have g1 := f1.mono e3
      walk_at "rd"
      refine ⟨pl, a, t, xs, ps, s, lot.map fun (d : Nat) => (d : Int), _, rfl, Same.seq f3.same hl, hpr.mono f3.same, f3.same _ _ ha, .inr rfl, (show SqT K H3 t _ from by rw [← nV_int]; exact SqT.of (e3 _ _ t1)), by rw [List.length_map]; omega, h12, fun H4 e4 => ?_⟩
      rw [hwd]
      have f4 := f3.trans (FW.of f3.ws e4)
      clear f3 e3 g1 e2 h2 heb
      walk_at "rd"
      refine ⟨by decide, for_it (walk_rangeN (n := 4)) (fun i σ H' => ∃ v5 v6 : Option V, σ = [some (.ref z), some (.int n), some (.ref pl), some (.ref a), some (.ref r), v5, v6, none] ∧ FW z H H') ⟨none, none, rfl, f4⟩ (fun _ _ _ _ _ => trivial) ?_ ?_⟩
      · rintro i x σ H6 H5 hi ⟨v5, v6, rfl, f5⟩ ⟨rfl, rfl⟩
        walk_at "rd"
        refine ⟨f5.ws, hn0, hn, fun H7 L ns f7 hL hnl hS _ => ?_⟩
        have f17 := f5.trans f7
        have hL7 : SqL K H7 L (nV ns) := SqL.of (drp_same _ _ hL)
        walk_at "rd"
        refine ⟨L, a, ns, s, rfl, hL7, hS, f17.same _ _ ha, fun H8 r8 e8 h8 => ?_⟩
        have f18 := f17.trans (FW.of f17.ws e8)
        have g2 := (hbd.mono f18.same).f_lot T
        have t8 := f18.same _ _ ht
        have l8 : SqL K H8 pl xs := Same.seq f18.same hl
        have p8 := hpr.mono f18.same
        walk_at "rd"
        refine ⟨⟨_, SqT.of t8⟩, fun D hD => lc_it (walk_tup (K := K) (a := t) (xs := nV lot)) (fun i H' => Same H8 H' ∧ ∃ acc, H' D = some (.lst acc) ∧ Prs H8 acc (atL ps (lot.take i))) ⟨Same.new hD, [], upd_same, rfl, fun i v hv => by cases hv⟩ (fun i H' _ h => SqT.of (h.1 _ _ t8)) ?_ ?_⟩
        · rintro i x H10 H9 hi ⟨e9, acc, h9, hpa⟩ ⟨rfl, hx1⟩
          obtain ⟨k, hk, rfl⟩ := get_map hx1
          rw [nV_len] at hi
          have hkl := hin k (List.mem_of_getElem? hk)
          have hxk : k < xs.length := by rw [hpr.1]; exact hkl
          obtain ⟨p, aa, hp1, hxa, hp3⟩ := p8.2 k _ (List.getElem?_eq_getElem hxk)
          have hat : atI xs ((k : Nat) : Int) = some (.ref aa) := by rw [← hxa]; exact atI_nat (List.getElem?_eq_getElem hxk)
          walk_at "rd"
          refine ⟨_, _, _, _, rfl, rfl, e9.seq l8, hat, ?_⟩
          refine ⟨acc, h9, ?_, Same.own e9 hD, acc ++ [.ref aa], upd_same, ?_⟩
          · rw [hpa.1]
            unfold atL
            rw [List.length_map, List.length_take]
            exact Nat.lt_of_le_of_lt (Nat.min_le_left _ _) (Nat.lt_of_lt_of_le (by omega : i < 12) (by decide))
          · rw [atL_take hk, List.getD_eq_getElem?_getD, hp1]
            exact hpa.snoc hp3
        · rintro H9 ⟨e9, acc, h9, hpa⟩
          rw [nV_len, List.take_length] at hpa
          have hal : (atL ps lot).length ≤ 12 := by unfold atL; rw [List.length_map]; exact hl12
          walk_at "rd"
          refine ⟨L, D, ns, acc, _, rfl, (e8.trans e9).seq hL7, hS, SqL.of h9, hpa.mono e9, hal, fun H10 r10 e10 h10 => ?_⟩
          walk_at "rd"
          refine ⟨r8, r10, _, _, rfl, (e9.trans e10) _ _ h8, h10, small_pair hS s hal, ?_⟩
          rw [hbb ns]
          walk_at "rd"
          exact f18.trans (FW.of f18.ws (e9.trans e10))
      · rintro σ H5 ⟨v5, v6, rfl, f5⟩
        walk_at "rd"
        exact q H5 f5
def spLER (K : PySem.W.Frag) : Sp := fun vs H Q _ => ∃ (pl a r qa : Addr) (n parts : Nat) (xs : List V) (ps : List UM.P) (s : UM.P) (ns : List Nat), vs = [.int n, .ref pl, .ref a, .int parts, .ref r] ∧ SqL K H pl xs ∧ Prs H xs ps ∧ H a = some (pV s) ∧
  ExcAt0 K H r qa ∧ WeiAt K H qa ns ∧ UM.SmallW ns ∧ ns.length = n ∧ ps.length ≤ 12 ∧ 1 ≤ parts ∧ parts ≤ 1000000 ∧ (∀ p ∈ ps, UM.above (UM.dbt ns p) (1, parts) = false) ∧ UM.above (parts - 1, parts) (UM.dbt ns s) = false ∧ UM.above (UM.dbt ns s) (UM.sumF ns ps) = true ∧
  ∀ H', Same H H' → Q (.bl true) H'
theorem sc_law_exceeds_right : FnScope ["_law_days", "_law_pairs_here", "_law_pair_here", "_law_pieces", "_law_told", "_law_numbers_here", "_law_each"] ["_law_days", "_law_pairs_here", "_law_pair_here", "_law_pieces", "_law_told"] (defScope (top 120)) := ⟨rfl, rfl, rfl, by decide +kernel, rfl, by decide +kernel, by decide +kernel⟩
theorem ok_law_exceeds_right (T : Txt K mg) : Ok P w K mg base 5 (ga K "_law_exceeds_right") ["_law_days", "_law_pairs_here", "_law_pair_here", "_law_pieces", "_law_told"] (spLER K) := by
  obtain ⟨fd, F⟩ := T.d_law_exceeds_right
  obtain ⟨_, G_Weights_len, b_Weights_len, k_Weights_len⟩ := ok_Weights_len (P := P) (w := w) (base := base) T
  obtain ⟨_, G_law_above, b_law_above, k_law_above⟩ := ok_law_above (P := P) (w := w) (base := base) T
  obtain ⟨_, G_law_doubt, b_law_doubt, k_law_doubt⟩ := ok_law_doubt (P := P) (w := w) (base := base) T
  obtain ⟨_, G_law_exceeds_word, b_law_exceeds_word, k_law_exceeds_word⟩ := ok_law_exceeds_word (P := P) (w := w) (base := base) T
  refine ⟨_, F.ok sc_law_exceeds_right (fun vs H Q E h => ?_) (fun cdv A outer s H vs Q E hr h => ?_), F.binds fun _ _ _ _ _ _ us hl => match us, hl with | [_, _, _, _, _], _ => rfl, F.kp⟩
  · obtain ⟨pl, a, r, qa, n, parts, xs, ps, s, ns, rfl, _⟩ := h
    rfl
  · obtain ⟨pl, a, r, qa, n, parts, xs, ps, s, ns, rfl, hl, hpr, ha, hex, hW, hS, hnl, h12, hp1, hp6, hps, hpp, hab, q⟩ := h
    refine ⟨_, (pss_cons (ps_if (PW.pt (pw_or (pt_not (pt_val (pe_callB call_isi (by rfl) T.b_isinstance (by decide +kernel) (pa_cons (pe_fld (pv 4) rfl) (pa_cons (pe_glob (v := .ref (ga K "Weights")) rfl T.g_Weights rfl) pa_nil))))) (pw_or1 (pt_cmpR op_ne (pe_callB (call_lenOwn T.m_Weights_len (raw0 G_Weights_len b_Weights_len) (hr.mono (by decide)) pass0) (by rfl) T.b_len (by decide +kernel) (pa_cons (pe_fld (pv 4) rfl) pa_nil)) (pv 0) (nomark _))))) (pss_one (ps_ret pe_bl)) pss_nil)
      (pss_cons (ps_set (i := 5) sc_law_exceeds_right.nd rfl (Or.inr rfl) (pe_callTy call_list_of (by rfl) T.b_list (by decide +kernel) (pa_cons (pe_fld (pe_fld (pv 4) rfl) rfl) pa_nil)))
      (pss_cons (ps_if (pt_cmpR (op_neD hr.units) (pe_lc (own := [("_law_each", 6)]) rfl sc_law_exceeds_right.nd (pi_list (pv 1)) (blkOk_by (own := [("_law_each", 6)]) (N := ["_law_days", "_law_pairs_here", "_law_pair_here", "_law_pieces", "_law_told", "_law_numbers_here", "_law_each"]) (sc := defScope (top 120)) (by decide +kernel)) (fun _ _ _ _ _ => (pg_name (i := 6) sc_law_exceeds_right.nd rfl (Or.inl rfl))) (fun _ _ _ _ _ => pts_one (pt_val (pe_call G_law_above (hr.mono (by decide)) rfl T.g__law_above k_law_above b_law_above .nil pass0 (pa_cons (pe_call G_law_doubt (hr.mono (by decide)) rfl T.g__law_doubt k_law_doubt b_law_doubt .nil pass0 (pa_cons (pv 5) (pa_cons (pv 6) pa_nil))) (pa_cons (pe_tup (pa_cons pe_int (pa_cons (pv 3) pa_nil))) pa_nil))))) (fun _ _ _ _ _ => (pv 6))) (pe_lst pa_nil) (nomark _)) (pss_one (ps_ret pe_bl)) pss_nil)
      (pss_cons (ps_if (pt_val (pe_call G_law_above (hr.mono (by decide)) rfl T.g__law_above k_law_above b_law_above .nil pass0 (pa_cons (pe_tup (pa_cons (pe_op op_sub (pv 3) pe_int) (pa_cons (pv 3) pa_nil))) (pa_cons (pe_call G_law_doubt (hr.mono (by decide)) rfl T.g__law_doubt k_law_doubt b_law_doubt .nil pass0 (pa_cons (pv 5) (pa_cons (pv 2) pa_nil))) pa_nil)))) (pss_one (ps_ret pe_bl)) pss_nil) (pss_one (ps_ret (pe_cmpR op_isN (pe_call G_law_exceeds_word (hr.mono (by decide)) rfl T.g__law_exceeds_word k_law_exceeds_word b_law_exceeds_word .nil pass0 (pa_cons (pv 0) (pa_cons (pv 1) (pa_cons (pv 2) (pa_cons (pv 5) pa_nil))))) pe_non (nomark _)))))))), ?_⟩
    have f1 := hex.f_weights T
    obtain ⟨tw, hw0, htw⟩ := id hW
    obtain ⟨dxw, fsw, hwe⟩ := hw0.ins
    have f2 := hw0.f_numbers T
    walk_at "rd"
    refine ⟨_, _, _, _, true, rfl, .own _, hw0.ty T, T.i_Weights_Weights, ?_⟩
    walk_at "rd"
    refine ⟨qa, dxw, fsw, rfl, hwe, qa, ns, rfl, hW, _, rfl, Int.natCast_nonneg _, by have := hS.1; omega, ?_⟩
    walk_at "rd"
    have z1 : decide (V.int (ns.length : Int) = V.int (n : Int)) = true := decide_eq_true (by rw [hnl])
    simp only [z1]
    walk_at "rd"
    intro l0 hl0
    have e1 : Same H (upd H l0 (.lst (nV ns))) := Same.new hl0
    have h1 : upd H l0 (.lst (nV ns)) l0 = some (.lst (nV ns)) := upd_same
    revert e1 h1
    generalize upd H l0 (.lst (nV ns)) = H1
    intro e1 h1
    have hp20 : parts < 2 ^ 8000 := Nat.lt_of_le_of_lt hp6 (by decide : 1000000 < 2 ^ 8000)
    have b0 := small_pair hS s (qs := []) (Nat.zero_le _)
    walk_at "rd"
    refine ⟨⟨_, e1.seq hl⟩, fun D hD => lc_it (walk_list (K := K) (a := pl) (xs := xs)) (fun i H' => Same H1 H' ∧ H' D = some (.lst [])) ⟨Same.new hD, upd_same⟩ (fun i H' _ h => (e1.trans h.1).seq hl) ?_ ?_⟩
    · rintro i x H3 H2 hi ⟨e2, h2⟩ ⟨rfl, hx1⟩
      obtain ⟨p, aa, hpi, rfl, hp3⟩ := hpr.2 i x hx1
      have bp := small_pair hS p (qs := []) (Nat.zero_le _)
      walk_at "rd"
      refine ⟨l0, aa, ns, p, rfl, SqL.of (e2 _ _ h1), hS, (e1.trans e2) _ _ hp3, fun H4 r4 e4 h4 => ?_⟩
      walk_at "rd"
      refine ⟨by show 2 ≤ sizeLine; decide, fun t4 ht4 => ?_⟩
      walk_at "rd"
      refine ⟨r4, t4, _, (1, parts), rfl, get_push ht4 h4, upd_same, ⟨bp.1, bp.2.1, show 1 < 2 ^ 8000 by decide, hp20⟩, ?_⟩
      rw [hps p (List.mem_of_getElem? hpi)]
      walk_at "rd"
      exact ⟨Same.push (e2.trans e4) ht4, get_push ht4 (e4 _ _ h2)⟩
    · rintro H2 ⟨e2, h2⟩
      walk_at "rd"
      refine ⟨by show 0 ≤ sizeLine; decide, fun eb heb => ne_empty (SqL.of (get_push heb h2)) (fun v hv => by cases hv) (SqL.of upd_same) ?_⟩
      have e3 : Same H1 (upd H2 eb (.lst [])) := Same.push e2 heb
      revert e3
      generalize upd H2 eb (.lst []) = H3
      intro e3
      walk_at "rd"
      refine ⟨by show 2 ≤ sizeLine; decide, fun t4 ht4 => ?_⟩
      have e4 := Same.push e3 ht4 (o := .tup [.int ((parts : Int) - 1), .int (parts : Int)])
      have h4 : upd H3 t4 (.tup [.int ((parts : Int) - 1), .int (parts : Int)]) t4 = some (fV (parts - 1, parts)) := by
        rw [upd_same]
        have : (parts : Int) - 1 = ((parts - 1 : Nat) : Int) := by omega
        rw [this]
        rfl
      revert e4 h4
      generalize upd H3 t4 (.tup [.int ((parts : Int) - 1), .int (parts : Int)]) = H4
      intro e4 h4
      walk_at "rd"
      refine ⟨l0, a, ns, s, rfl, SqL.of (e4 _ _ h1), hS, (e1.trans e4) _ _ ha, fun H5 r5 e5 h5 => ?_⟩
      walk_at "rd"
      refine ⟨t4, r5, (parts - 1, parts), _, rfl, e5 _ _ h4, h5, ⟨Nat.lt_of_le_of_lt (Nat.sub_le _ _) hp20, hp20, b0.1, b0.2.1⟩, ?_⟩
      rw [hpp]
      walk_at "rd"
      have e15 := e1.trans (e4.trans e5)
      refine ⟨pl, a, l0, n, xs, ps, s, ns, rfl, e15.seq hl, hpr.mono e15, e15 _ _ ha, SqL.of ((e4.trans e5) _ _ h1), hS, h12, fun H6 e6 => ?_⟩
      have ew : wordE n ps s ns = .non := by
        unfold wordE
        rw [if_pos hnl, hab, if_pos rfl]
      rw [ew]
      walk_at "rd"
      exact q H6 (e15.trans e6)
end
end U
set_option maxHeartbeats 4100000
namespace U
open PySem L2 He
local macro_rules | `(tactic| walk_at "same") => `(tactic| first | (with_reducible assumption) | exact Same.refl _ | (refine Same.push ?_ (by assumption); walk_at "same") | (refine Same.own ?_ (by assumption); walk_at "same") | (refine Same.trans ?_ (by with_reducible assumption); walk_at "same"))
local macro_rules | `(tactic| walk_at "get") => `(tactic| first | assumption | exact upd_same | (refine get_push (by assumption) ?_; walk_at "get") | (refine get_ne (by assumption) ?_; walk_at "get") | (refine get_ne' (by assumption) ?_; walk_at "get") | (refine Same.get ?_ (by assumption); walk_at "same"))
local macro_rules | `(tactic| walk_at "has") => `(tactic| first | assumption | (refine Has.mono ?_ (by assumption); walk_at "same"))
local macro_rules | `(tactic| walk_at "sql") => `(tactic| first | assumption | exact SqL.of upd_same | exact SqL.of (by assumption) | (refine Same.seq ?_ (by assumption); walk_at "same") | (refine SqL.of ?_; walk_at "get"))
local macro_rules | `(tactic| walk_at "sqt") => `(tactic| first | assumption | exact SqT.of upd_same | exact SqT.of (by assumption) | (refine Same.tup ?_ (by assumption); walk_at "same") | (refine SqT.of ?_; walk_at "get"))
local macro_rules | `(tactic| walk_at "r1") => `(tactic| first | ((with_reducible refine ite_tt ?_ ?_); (focus exact rfl)) | ((with_reducible refine ite_ff ?_ ?_); (focus exact rfl)) | refine ⟨_, rfl, ?_⟩ | refine ⟨_, _, rfl, rfl, ?_⟩ | (refine ⟨rfl, ?_⟩) | refine ⟨(Int.natCast_nonneg _ : (0 : Int) ≤ _), ?_⟩ | refine ⟨_, _, rfl, ?_⟩ | refine ⟨_, _, _, rfl, ?_⟩ | (refine Has.ans (by walk_at "has") ?_) | refine ⟨_, _, _, _, rfl, rfl, (by walk_at "sql"), rfl, ?_⟩ | refine ⟨_, _, rfl, .inl (by walk_at "sql"), ?_⟩ | refine ⟨_, _, rfl, .inr (by walk_at "sqt"), ?_⟩ | refine ⟨_, _, _, _, rfl, rfl, (by walk_at "sqt"), rfl, ?_⟩ | refine ⟨_, _, rfl, (by walk_at "sqt"), rfl, ?_⟩ | refine ⟨_, _, _, _, rfl, (by walk_at "get"), (by assumption), (by assumption), (by walk_at "len"), ?_⟩ | refine ⟨_, _, _, _, _, rfl, (by walk_at "get"), (by assumption), (by assumption), (by walk_at "lk"), ?_⟩)
local macro_rules | `(tactic| walk_at "rd") => `(tactic| repeat walk_at "r1")
local macro_rules | `(tactic| walk_at "lk") => `(tactic| first | (with_reducible exact lk_hit) | (refine lk_miss (by decide +kernel) ?_; walk_at "lk") | rfl)
local macro_rules | `(tactic| walk_at "len") => `(tactic| (refine Nat.lt_of_le_of_lt (m := 60) ?_ (by decide); (repeat (refine len_put ?_)); exact Nat.zero_le _))
local macro_rules | `(tactic| walk_at "len9") => `(tactic| (refine Nat.le_trans (m := 60) ?_ (by decide); (repeat (refine len_put ?_)); exact Nat.zero_le _))
local macro_rules | `(tactic| walk_at "own") => `(tactic| first | assumption | (refine Same.own ?_ (by assumption); walk_at "own"))

section
variable {P : Program} {w : World} {base : Heap}
variable {K : PySem.W.Frag} {mg : Str → Option Value}
theorem AnsAt.mono {H H' : Hp} {r : Addr} {n : Nat} {ps : List UM.P} {s : UM.P} {z : V} (e : Same H H') (h : AnsAt K H r n ps s z) : AnsAt K H' r n ps s z := by
  rcases h with ⟨q, ns, h1, h2, h3, h4⟩ | ⟨t, lot, h1, h2, h3, h4⟩
  · exact .inl ⟨q, ns, h1.mono e, h2.mono e, h3, h4⟩
  · exact .inr ⟨t, lot, h1.mono e, Same.tup e h2, h3, h4⟩
theorem BookAt.len {H : Hp} {b : Addr} {n : Nat} {xs : List V} {ps : List UM.P} (h : BookAt K H b n xs ps) : xs.length = ps.length := by
  obtain ⟨m, t, _, _, _, hs⟩ := h
  exact hs.1
theorem wordB_is (ps : List UM.P) (s : UM.P) (lot : List Int) : wordB ps s lot = .non ∨ ∃ x, wordB ps s lot = .str x := by
  unfold wordB
  split
  · exact .inr ⟨_, rfl⟩
  · split
    · exact .inl rfl
    · exact .inr ⟨_, rfl⟩
theorem wordE_is (n : Nat) (ps : List UM.P) (s : UM.P) (ns : List Nat) : wordE n ps s ns = .non ∨ ∃ x, wordE n ps s ns = .str x := by
  unfold wordE
  split
  · split
    · exact .inl rfl
    · exact .inr ⟨_, rfl⟩
  · exact .inr ⟨_, rfl⟩
/-- a word is told as it is due -/
theorem ne_word {x : V} {H : Hp} {Q : VK} (h : x = .non ∨ ∃ y, x = .str y) (q : Q (.bl false) H) : rNe x x H Q := by
  refine ⟨?_, ?_⟩
  · rcases h with rfl | ⟨y, rfl⟩ <;> rfl
  · have : decide (x = x) = true := decide_eq_true rfl
    rw [this]
    exact q
def spLJudged (K : PySem.W.Frag) : Sp := fun vs H Q _ => ∃ (z b a pl pr r : Addr) (n : Nat) (xb xs : List V) (ps : List UM.P) (s : UM.P) (t : Nat), vs = [.ref z, .ref b, .ref a, .ref pl, .ref pr, .ref r] ∧ WS H z ∧ BookAt K (drp z H) b n xb ps ∧ SayAt K (drp z H) a s.1 s.2 t true ∧ SayP n s.1 s.2 t ∧
  SqL K (drp z H) pl xs ∧ Prs (drp z H) xs ps ∧ drp z H pr = some (pV s) ∧ AnsAt K (drp z H) r n ps s .non ∧ Four n ∧ ps.length ≤ 12 ∧ ∀ H', FW z H H' → Q (.bl true) H'
/-- a lot at L, made since H -/
def LotI (z : Addr) (H : Hp) (m : Nat) (ρ : V → L2.St) : L2.St → Hp → Prop := fun σ H' => ∃ (L : Addr) (lot : List Int), σ = ρ (.ref L) ∧ FW z H H' ∧ H L = none ∧ H' L = some (.lst (lot.map V.int)) ∧ lot.length ≤ m
theorem sc_law_judged : FnScope ["_law_well_here", "_law_book", "_law_saying_here", "_law_pairs_here", "_law_pair_here", "_law_told", "_law_days", "_law_many", "_law_turn", "_law_lot", "_law_kind", "_law_numbers_here", "_law_k"] ["_law_well_here", "_law_book", "_law_saying_here", "_law_pairs_here", "_law_pair_here", "_law_told"] (defScope (top 121)) := ⟨rfl, rfl, rfl, by decide +kernel, rfl, by decide +kernel, by decide +kernel⟩
theorem ok_law_judged (T : Txt K mg) : Ok P w K mg base 8 (ga K "_law_judged") ["_law_well_here", "_law_book", "_law_saying_here", "_law_pairs_here", "_law_pair_here", "_law_told"] (spLJudged K) := by
  obtain ⟨fd, F⟩ := T.d_law_judged
  obtain ⟨_, G_sum_fault, b_sum_fault, k_sum_fault⟩ := ok_sum_fault (P := P) (w := w) (base := base) T
  obtain ⟨_, G_law_drawn, b_law_drawn, k_law_drawn⟩ := ok_law_drawn (P := P) (w := w) (base := base) T
  obtain ⟨_, G_law_one_of, b_law_one_of, k_law_one_of⟩ := ok_law_one_of (P := P) (w := w) (base := base) T
  obtain ⟨_, G_Bounded_init, b_Bounded_init, k_Bounded_init⟩ := ok_Bounded_init (P := P) (w := w) (base := base) T
  obtain ⟨_, G_law_lot_word, b_law_lot_word, k_law_lot_word⟩ := ok_law_lot_word (P := P) (w := w) (base := base) T
  obtain ⟨_, G_law_numbers, b_law_numbers, k_law_numbers⟩ := ok_law_numbers (P := P) (w := w) (base := base) T
  obtain ⟨_, G_Exceeds_init, b_Exceeds_init, k_Exceeds_init⟩ := ok_Exceeds_init (P := P) (w := w) (base := base) T
  obtain ⟨_, G_Weights_init, b_Weights_init, k_Weights_init⟩ := ok_Weights_init (P := P) (w := w) (base := base) T
  obtain ⟨_, G_law_exceeds_word, b_law_exceeds_word, k_law_exceeds_word⟩ := ok_law_exceeds_word (P := P) (w := w) (base := base) T
  refine ⟨_, F.ok sc_law_judged (fun vs H Q E h => ?_) (fun cdv A outer s H vs Q E hr h => ?_), F.binds fun _ _ _ _ _ _ us hl => match us, hl with | [_, _, _, _, _, _], _ => rfl, F.kp⟩
  · obtain ⟨z, b, a, pl, pr, r, n, xb, xs, ps, s, t, rfl, _⟩ := h
    rfl
  · obtain ⟨z, b, a, pl, pr, r, n, xb, xs, ps, s, t, rfl, hw, hB, ha, hP, hl, hpr, hp, hA, hn4, h12, q⟩ := h
    refine ⟨_, (pss_cons (ps_par (i := 6) (j := 7) (by rfl) sc_law_judged.nd rfl rfl (by decide) rfl rfl (pa_cons (pe_fld (pe_fld (pv 1) rfl) rfl) (pa_cons (pe_callB call_len_seq (by rfl) T.b_len (by decide +kernel) (pa_cons (pv 3) pa_nil)) pa_nil)) (by rfl))
      (pss_cons (ps_if (pt_cmpR op_notN (pe_call G_sum_fault (hr.mono (by decide)) rfl T.g_sum_fault k_sum_fault b_sum_fault .nil pass0 (pa_cons (pv 1) (pa_cons (pv 2) (pa_cons (pv 5) pa_nil)))) pe_non (nomark _)) (pss_one (ps_ret pe_bl)) pss_nil)
      (pss_cons (ps_for PassesOwn.never rfl (pi_rangeN rfl T.b_range (pa_cons pe_int pa_nil)) (pg_name (i := 8) sc_law_judged.nd rfl (Or.inl rfl)) (pss_cut (ps_setLc (i := 9) (own := [("_law_k", 12)]) rfl sc_law_judged.nd rfl rfl (sw_true rfl rfl rfl (by decide +kernel)) (pi_rangeN rfl T.b_range (pa_cons (pv 7) pa_nil)) (blkOk_by (own := [("_law_k", 12)]) (N := ["_law_well_here", "_law_book", "_law_saying_here", "_law_pairs_here", "_law_pair_here", "_law_told", "_law_days", "_law_many", "_law_turn", "_law_lot", "_law_kind", "_law_numbers_here", "_law_k"]) (sc := defScope (top 121)) (by decide +kernel)) (fun _ _ _ _ _ => (pg_name (i := 12) sc_law_judged.nd rfl (Or.inl rfl))) (fun _ _ _ _ _ => pts_one (pt_cmpR op_gt (pe_call G_law_drawn (hr.mono (by decide)) rfl T.g__law_drawn k_law_drawn b_law_drawn .nil pass0 (pa_cons (pv 0) (pa_cons pe_int pa_nil))) pe_int (nomark _))) (fun _ _ _ _ _ => (pv 12)))
      (pss_cons (ps_set (i := 10) sc_law_judged.nd rfl (Or.inl rfl) (pe_call G_law_drawn (hr.mono (by decide)) rfl T.g__law_drawn k_law_drawn b_law_drawn .nil pass0 (pa_cons (pv 0) (pa_cons pe_int pa_nil))))
      (pss_cut (ps_if (pt_cmpR op_eq (pv 10) pe_int (nomark _)) (pss_one (ps_expr (pe_bm PySem.F.plainAttrs_list PySem.F.slot_list_append PySem.F.type_list_append mt_append (pv 9) (pa_cons (pe_call G_law_one_of (hr.mono (by decide)) rfl T.g__law_one_of k_law_one_of b_law_one_of .nil pass0 (pa_cons (pv 0) (pa_cons (pe_lst (pa_cons (pv 7) (pa_cons pe_int (pa_cons (pe_un un_neg pe_int) (pa_cons (pe_op op_add (pv 7) pe_int) pa_nil))))) pa_nil))) pa_nil)))) pss_nil)
      (pss_cut (ps_if (pt_cmpR op_eq (pv 10) pe_int (nomark _)) (pss_one (ps_expr (pe_bm0 PySem.F.plainAttrs_list PySem.F.slot_list_reverse PySem.F.type_list_reverse mt_reverse (pv 9)))) pss_nil)
      (pss_cut (ps_if (pt_cmpR op_eq (pv 10) pe_int (nomark _)) (pss_one (ps_set (i := 9) sc_law_judged.nd rfl (Or.inl rfl) (pe_op op_cat (pe_lst (pa_cons (pe_call G_law_one_of (hr.mono (by decide)) rfl T.g__law_one_of k_law_one_of b_law_one_of .nil pass0 (pa_cons (pv 0) (pa_cons (pe_lst (pa_cons (pe_un un_neg pe_int) (pa_cons (pe_un un_neg (pv 7)) (pa_cons (pv 7) pa_nil)))) pa_nil))) pa_nil)) (pv 9)))) pss_nil)
      (pss_cut (ps_if (pt_cmpR op_ne (pe_call G_sum_fault (hr.mono (by decide)) rfl T.g_sum_fault k_sum_fault b_sum_fault .nil pass0 (pa_cons (pv 1) (pa_cons (pv 2) (pa_cons (pe_make T.mk_Bounded G_Bounded_init (hr.mono (by decide)) rfl T.g_Bounded b_Bounded_init .nil pass0 (pa_cons (pe_callTy call_tuple_of (by rfl) T.b_tuple (by decide +kernel) (pa_cons (pv 9) pa_nil)) pa_nil)) pa_nil)))) (pe_call G_law_lot_word (hr.mono (by decide)) rfl T.g__law_lot_word k_law_lot_word b_law_lot_word .nil pass0 (pa_cons (pv 3) (pa_cons (pv 4) (pa_cons (pv 9) pa_nil)))) (nomark _)) (pss_one (ps_ret pe_bl)) pss_nil)
      (pss_cons (ps_set (i := 11) sc_law_judged.nd rfl (Or.inl rfl) (pe_call G_law_numbers (hr.mono (by decide)) rfl T.g__law_numbers k_law_numbers b_law_numbers .nil pass0 (pa_cons (pv 0) (pa_cons (pe_call G_law_one_of (hr.mono (by decide)) rfl T.g__law_one_of k_law_one_of b_law_one_of .nil pass0 (pa_cons (pv 0) (pa_cons (pe_lst (pa_cons (pv 6) (pa_cons (pv 6) (pa_cons (pv 6) (pa_cons pe_int (pa_cons pe_int pa_nil)))))) pa_nil))) pa_nil)))) (pss_one (ps_if (pt_cmpR op_ne (pe_call G_sum_fault (hr.mono (by decide)) rfl T.g_sum_fault k_sum_fault b_sum_fault .nil pass0 (pa_cons (pv 1) (pa_cons (pv 2) (pa_cons (pe_make T.mk_Exceeds G_Exceeds_init (hr.mono (by decide)) rfl T.g_Exceeds b_Exceeds_init .nil pass0 (pa_cons (pe_make T.mk_Weights G_Weights_init (hr.mono (by decide)) rfl T.g_Weights b_Weights_init .nil pass0 (pa_cons (pv 11) pa_nil)) pa_nil)) pa_nil)))) (pe_call G_law_exceeds_word (hr.mono (by decide)) rfl T.g__law_exceeds_word k_law_exceeds_word b_law_exceeds_word .nil pass0 (pa_cons (pv 6) (pa_cons (pv 3) (pa_cons (pv 4) (pa_cons (pv 11) pa_nil))))) (nomark _)) (pss_one (ps_ret pe_bl)) pss_nil)))))))))) (pss_one (ps_ret (pe_cmpR op_isN (pe_call G_sum_fault (hr.mono (by decide)) rfl T.g_sum_fault k_sum_fault b_sum_fault .nil pass0 (pa_cons (pv 1) (pa_cons (pv 2) (pa_cons (pv 5) pa_nil)))) pe_non (nomark _))))))), ?_⟩
    have hxb : xb.length ≤ 12 := by rw [hB.len]; exact h12
    have hn : n ≤ 16 := hP.n16
    have hn0 : 0 < n := by rcases hn4 with h | h | h | h <;> omega
    obtain ⟨m, t', hb0, hm, ht, hs⟩ := id hB
    have f1 := (hb0.mono drp_same).f_marks T; have f2 := (hm.mono drp_same).f_days T
    walk_at "rd"
    refine ⟨pl, _, rfl, .inl (Same.seq drp_same hl), ?_⟩
    walk_at "rd"
    refine ⟨b, a, r, n, xb, ps, s.1, s.2, t, .non, rfl, hB.mono drp_same, ha.mono drp_same, hP, hn4, hxb, hA.mono drp_same, fun H1 e1 => ?_⟩
    walk_at "rd"
    have fw1 : FW z H H1 := FW.of hw e1
    refine ⟨by decide, for_it (walk_rangeN (n := 4)) (fun i σ H' => ∃ v8 v9 v10 v11 : Option V, σ = [some (.ref z), some (.ref b), some (.ref a), some (.ref pl), some (.ref pr), some (.ref r), some (.int n), some (.int (xs.length : Nat)), v8, v9, v10, v11, none] ∧ FW z H H') ⟨none, none, none, none, rfl, fw1⟩ (fun _ _ _ _ _ => trivial) ?_ ?_⟩
    · rintro i x σ H3 H2 hi ⟨v8, v9, v10, v11, rfl, f2⟩ ⟨rfl, rfl⟩
      walk_at "rd"
      refine ⟨LotI z H 12 fun lv => [some (.ref z), some (.ref b), some (.ref a), some (.ref pl), some (.ref pr), some (.ref r), some (.int n), some (.int (xs.length : Nat)), some (.int (i : Nat)), some lv, v10, v11, none], ?_, ?_⟩
      · walk_at "rd"
        refine ⟨by rw [hpr.1]; omega, fun D hD => lc_it (walk_rangeN (n := xs.length)) (fun i H' => FW z H2 H' ∧ ∃ lot : List Int, H' D = some (.lst (lot.map V.int)) ∧ lot.length ≤ i) ⟨(FW.refl f2.ws).push hD, [], upd_same, Nat.le_refl _⟩ (fun _ _ _ _ => trivial) ?_ ?_⟩
        · rintro j x H5 H4 hj ⟨f4, lot, h4, hll⟩ ⟨rfl, rfl⟩
          rw [hpr.1] at hj
          walk_at "rd"
          refine ⟨f4.ws, by decide, small60 (by decide), fun H6 d6 f6 hd6 => ?_⟩
          have zD := f2.ws.ne hD
          walk_at "rd"
          by_cases hd : 0 < d6
          · rw [decide_eq_true (show (0 : Int) < (d6 : Int) by omega)]
            walk_at "rd"
            refine ⟨_, f6.get zD h4, by rw [List.length_map]; exact Nat.lt_of_lt_of_le (by omega : lot.length < 13) (by decide), (f4.trans f6).put zD hD, lot ++ [(j : Int)], ?_, by rw [List.length_append]; show lot.length + 1 ≤ j + 1; omega⟩
            rw [upd_same, List.map_append]
            rfl
          · rw [decide_eq_false (show ¬ (0 : Int) < (d6 : Int) by omega)]
            walk_at "rd"
            exact ⟨f4.trans f6, lot, f6.get zD h4, by omega⟩
        · rintro H4 ⟨f4, lot, h4, hll⟩
          exact ⟨D, lot, rfl, f2.trans f4, f2.free hD, h4, by rw [hpr.1] at hll; omega⟩
      · rintro σ H3 ⟨L, lot, rfl, f3, hL0, hL, hll⟩
        walk_at "rd"
        refine ⟨f3.ws, by decide, small60 (by decide), fun H4 kd f4 hkd => ?_⟩
        have f34 := f3.trans f4
        have zL := hw.ne hL0
        have hL4 := f4.get zL hL
        walk_at "rd"
        refine ⟨LotI z H 13 fun lv => [some (.ref z), some (.ref b), some (.ref a), some (.ref pl), some (.ref pr), some (.ref r), some (.int n), some (.int (xs.length : Nat)), some (.int (i : Nat)), some lv, some (.int (kd : Nat)), v11, none], ?_, ?_⟩
        · walk_at "rd"
          by_cases hk : kd = 0
          rotate_left
          · rw [vint_ne (show (kd : Int) ≠ 0 by omega)]
            walk_at "rd"
            exact ⟨L, lot, rfl, f34, hL0, hL4, by omega⟩
          subst hk
          walk_at "rd"
          refine ⟨.inl ⟨rfl, _, SqL.of hL4⟩, ?_⟩
          walk_at "rd"
          refine ⟨by show 4 ≤ sizeLine; decide, fun T hT => ?_⟩
          have fT := f34.push hT (o := .lst [V.int (xs.length : Nat), .int 0, .int (-1), .int ((xs.length : Nat) + 7)])
          have zT := f4.ws.ne hT
          walk_at "rd"
          refine ⟨z, T, [V.int (xs.length : Nat), .int 0, .int (-1), .int ((xs.length : Nat) + 7)], rfl, fT.ws, SqL.of ((drp_ne zT.symm).trans upd_same), Nat.succ_pos _, Nat.le_of_ble_eq_true rfl, fun H6 v f6 hv => ?_⟩
          obtain ⟨k, rfl⟩ : ∃ k : Int, v = .int k := by
            simp only [List.mem_cons, List.not_mem_nil, or_false] at hv
            rcases hv with rfl | rfl | rfl | rfl <;> exact ⟨_, rfl⟩
          refine ⟨L, _, _, rfl, rfl, f6.get zL (get_push hT hL4), by rw [List.length_map]; exact Nat.lt_of_lt_of_le (by omega : lot.length < 13) (by decide), L, lot ++ [k], rfl, (fT.trans f6).put zL hL0, hL0, ?_, by rw [List.length_append]; show lot.length + 1 ≤ 13; omega⟩
          rw [upd_same, List.map_append]
          rfl
        · clear f3 hL f34 hL4 hll hL0 zL
          rintro σ H5 ⟨L, lot, rfl, f5, hL0, hL5, hll⟩
          have zL := hw.ne hL0
          refine ⟨LotI z H 13 fun lv => [some (.ref z), some (.ref b), some (.ref a), some (.ref pl), some (.ref pr), some (.ref r), some (.int n), some (.int (xs.length : Nat)), some (.int (i : Nat)), some lv, some (.int (kd : Nat)), v11, none], ?_, ?_⟩
          · walk_at "rd"
            by_cases hk : kd = 1
            rotate_left
            · rw [vint_ne (show (kd : Int) ≠ 1 by omega)]
              walk_at "rd"
              exact ⟨L, lot, rfl, f5, hL0, hL5, by omega⟩
            subst hk
            walk_at "rd"
            refine ⟨.inl ⟨rfl, _, SqL.of hL5⟩, ?_⟩
            exact ⟨L, _, rfl, rfl, hL5, L, lot.reverse, rfl, f5.put zL hL0, hL0, by rw [upd_same, List.map_reverse], by rw [List.length_reverse]; exact hll⟩
          · clear f5 hL5 hll hL0 zL
            rintro σ H5 ⟨L, lot, rfl, f5, hL0, hL5, hll⟩
            have zL := hw.ne hL0
            refine ⟨LotI z H 14 fun lv => [some (.ref z), some (.ref b), some (.ref a), some (.ref pl), some (.ref pr), some (.ref r), some (.int n), some (.int (xs.length : Nat)), some (.int (i : Nat)), some lv, some (.int (kd : Nat)), v11, none], ?_, ?_⟩
            · walk_at "rd"
              by_cases hk : kd = 2
              rotate_left
              · rw [vint_ne (show (kd : Int) ≠ 2 by omega)]
                walk_at "rd"
                exact ⟨L, lot, rfl, f5, hL0, hL5, by omega⟩
              subst hk
              walk_at "rd"
              refine ⟨by show 3 ≤ sizeLine; decide, fun T hT => ?_⟩
              have fT := f5.push hT (o := .lst [V.int (-1), .int (-(xs.length : Nat)), .int (xs.length : Nat)])
              have zT := f5.ws.ne hT
              walk_at "rd"
              refine ⟨z, T, [V.int (-1), .int (-(xs.length : Nat)), .int (xs.length : Nat)], rfl, fT.ws, SqL.of ((drp_ne zT.symm).trans upd_same), Nat.succ_pos _, Nat.le_of_ble_eq_true rfl, fun H6 v f6 hv => ?_⟩
              obtain ⟨k, rfl⟩ : ∃ k : Int, v = .int k := by
                simp only [List.mem_cons, List.not_mem_nil, or_false] at hv
                rcases hv with rfl | rfl | rfl <;> exact ⟨_, rfl⟩
              have f6' := fT.trans f6
              have hL6 := f6.get zL (get_push hT hL5)
              walk_at "rd"
              refine ⟨by show 1 ≤ sizeLine; decide, fun T2 hT2 => ?_⟩
              have f7 := f6'.push hT2 (o := .lst [V.int k])
              walk_at "rd"
              refine ⟨T2, L, [V.int k], lot.map V.int, rfl, rfl, upd_same, get_push hT2 hL6, by rw [List.length_map]; exact Nat.le_trans (by show 1 + lot.length ≤ 14; omega) (by decide), fun p hp => ?_⟩
              exact ⟨p, k :: lot, rfl, f7.push hp, f7.free hp, by rw [upd_same]; rfl, by rw [List.length_cons]; omega⟩
            · clear f5 hL5 hll hL0 zL
              rintro σ H5 ⟨L, lot, rfl, f5, hL0, hL5, hll⟩
              have zL := hw.ne hL0
              refine ⟨fun σ H' => σ = [some (.ref z), some (.ref b), some (.ref a), some (.ref pl), some (.ref pr), some (.ref r), some (.int n), some (.int (xs.length : Nat)), some (.int (i : Nat)), some (.ref L), some (.int (kd : Nat)), v11, none] ∧ FW z H H', ?_, ?_⟩
              · walk_at "rd"
                refine ⟨L, _, rfl, .inl ⟨SqL.of hL5, fun tt htt => ?_⟩⟩
                have e5 : Same H5 (upd H5 tt (.tup (lot.map V.int))) := Same.new htt
                walk_at "rd"
                intro x dx nx ndx nex
                refine ⟨_, x, dx, tt, rfl, upd_same, Same.mk nx ndx, nx, fun H6 e6 hbd => ⟨rfl, ?_⟩⟩
                have e56 := e5.trans e6
                have f6 := f5.trans (FW.of f5.ws e56)
                walk_at "rd"
                refine ⟨b, a, x, n, xb, ps, s.1, s.2, t, wordB ps s lot, rfl, hB.mono f6.same, ha.mono f6.same, hP, hn4, hxb, .inr ⟨tt, lot, hbd, SqT.of (e6 _ _ upd_same), by omega, rfl⟩, fun H7 e7 => ?_⟩
                have f7 := f6.trans (FW.of f6.ws e7)
                walk_at "rd"
                refine ⟨pl, pr, L, xs, ps, s, lot, _, rfl, Same.seq f7.same hl, hpr.mono f7.same, f7.same _ _ hp, .inl rfl, SqL.of ((e56.trans e7) _ _ hL5), by omega, h12, fun H8 e8 => ?_⟩
                refine ne_word (wordB_is ps s lot) ?_
                walk_at "rd"
                exact f7.trans (FW.of f7.ws e8)
              · clear f5 hL5 hll hL0 zL
                rintro σ H5 ⟨rfl, f5⟩
                walk_at "rd"
                refine ⟨by show 5 ≤ sizeLine; decide, fun T hT => ?_⟩
                have fT := f5.push hT (o := .lst [V.int (n : Nat), .int (n : Nat), .int (n : Nat), .int 2, .int 16])
                have zT := f5.ws.ne hT
                walk_at "rd"
                refine ⟨z, T, [V.int (n : Nat), .int (n : Nat), .int (n : Nat), .int 2, .int 16], rfl, fT.ws, SqL.of ((drp_ne zT.symm).trans upd_same), Nat.succ_pos _, Nat.le_of_ble_eq_true rfl, fun H6 v f6 hv => ?_⟩
                obtain ⟨n', hn', rfl⟩ : ∃ n' : Nat, Four n' ∧ v = .int (n' : Nat) := by
                  simp only [List.mem_cons, List.not_mem_nil, or_false] at hv
                  rcases hv with rfl | rfl | rfl | rfl | rfl
                  · exact ⟨n, hn4, rfl⟩
                  · exact ⟨n, hn4, rfl⟩
                  · exact ⟨n, hn4, rfl⟩
                  · exact ⟨2, .inl rfl, rfl⟩
                  · exact ⟨16, .inr (.inr (.inr rfl)), rfl⟩
                have n0' : 0 < n' := by rcases hn' with h | h | h | h <;> omega
                have n16' : n' ≤ 16 := by rcases hn' with h | h | h | h <;> omega
                have f56 := fT.trans f6
                walk_at "rd"
                refine ⟨f56.ws, n0', n16', fun H7 Lw ns f7 hLw hnl hS hx => ?_⟩
                have f57 := f56.trans f7
                walk_at "rd"
                intro x dx nx ndx nex
                refine ⟨H7, x, dx, Lw, ns, rfl, upd_same, Same.mk nx ndx, nx, SqL.of (drp_same _ _ hLw), by rw [hnl]; exact hn', hx, fun H8 e8 hWe => ⟨rfl, ?_⟩⟩
                walk_at "rd"
                intro x2 dx2 nx2 ndx2 nex2
                refine ⟨H8, x2, dx2, x, rfl, upd_same, Same.mk nx2 ndx2, nx2, fun H9 e9 hex => ⟨rfl, ?_⟩⟩
                have e79 := e8.trans e9
                have f9 := f57.trans (FW.of f57.ws e79)
                walk_at "rd"
                refine ⟨b, a, x2, n, xb, ps, s.1, s.2, t, wordE n ps s ns, rfl, hB.mono f9.same, ha.mono f9.same, hP, hn4, hxb, .inl ⟨x, ns, hex, hWe.mono e9, hS, rfl⟩, fun H10 e10 => ?_⟩
                have f10 := f9.trans (FW.of f9.ws e10)
                walk_at "rd"
                refine ⟨pl, pr, Lw, n, xs, ps, s, ns, rfl, Same.seq f10.same hl, hpr.mono f10.same, f10.same _ _ hp, SqL.of ((e79.trans e10) _ _ (drp_same _ _ hLw)), hS, h12, fun H11 e11 => ?_⟩
                refine ne_word (wordE_is n ps s ns) ?_
                walk_at "rd"
                exact ⟨_, _, _, _, rfl, f10.trans (FW.of f10.ws e11)⟩
    · rintro σ H2 ⟨v8, v9, v10, v11, rfl, f2⟩
      walk_at "rd"
      refine ⟨b, a, r, n, xb, ps, s.1, s.2, t, .non, rfl, hB.mono f2.same, ha.mono f2.same, hP, hn4, hxb, hA.mono f2.same, fun H3 e3 => ?_⟩
      walk_at "rd"
      exact q H3 (f2.trans (FW.of f2.ws e3))
end
end U
set_option maxHeartbeats 4100000
namespace U
open PySem L2 He
local macro_rules | `(tactic| walk_at "same") => `(tactic| first | (with_reducible assumption) | exact Same.refl _ | (refine Same.push ?_ (by assumption); walk_at "same") | (refine Same.own ?_ (by assumption); walk_at "same") | (refine Same.trans ?_ (by with_reducible assumption); walk_at "same"))
local macro_rules | `(tactic| walk_at "get") => `(tactic| first | assumption | exact upd_same | (refine get_push (by assumption) ?_; walk_at "get") | (refine get_ne (by assumption) ?_; walk_at "get") | (refine get_ne' (by assumption) ?_; walk_at "get") | (refine Same.get ?_ (by assumption); walk_at "same"))
local macro_rules | `(tactic| walk_at "has") => `(tactic| first | assumption | (refine Has.mono ?_ (by assumption); walk_at "same"))
local macro_rules | `(tactic| walk_at "sql") => `(tactic| first | assumption | exact SqL.of upd_same | exact SqL.of (by assumption) | (refine Same.seq ?_ (by assumption); walk_at "same") | (refine SqL.of ?_; walk_at "get"))
local macro_rules | `(tactic| walk_at "sqt") => `(tactic| first | assumption | exact SqT.of upd_same | exact SqT.of (by assumption) | (refine Same.tup ?_ (by assumption); walk_at "same") | (refine SqT.of ?_; walk_at "get"))
local macro_rules | `(tactic| walk_at "r1") => `(tactic| first | ((with_reducible refine ite_tt ?_ ?_); (focus exact rfl)) | ((with_reducible refine ite_ff ?_ ?_); (focus exact rfl)) | refine ⟨_, rfl, ?_⟩ | refine ⟨_, _, rfl, rfl, ?_⟩ | (refine ⟨rfl, ?_⟩) | refine ⟨(Int.natCast_nonneg _ : (0 : Int) ≤ _), ?_⟩ | refine ⟨_, _, rfl, ?_⟩ | refine ⟨_, _, _, rfl, ?_⟩ | (refine Has.ans (by walk_at "has") ?_) | refine ⟨_, _, _, _, rfl, rfl, (by walk_at "sql"), rfl, ?_⟩ | refine ⟨_, _, rfl, .inl (by walk_at "sql"), ?_⟩ | refine ⟨_, _, rfl, .inr (by walk_at "sqt"), ?_⟩ | refine ⟨_, _, _, _, rfl, rfl, (by walk_at "sqt"), rfl, ?_⟩ | refine ⟨_, _, rfl, (by walk_at "sqt"), rfl, ?_⟩ | refine ⟨_, _, _, _, rfl, (by walk_at "get"), (by assumption), (by assumption), (by walk_at "len"), ?_⟩ | refine ⟨_, _, _, _, _, rfl, (by walk_at "get"), (by assumption), (by assumption), (by walk_at "lk"), ?_⟩)
local macro_rules | `(tactic| walk_at "rd") => `(tactic| repeat walk_at "r1")
local macro_rules | `(tactic| walk_at "lk") => `(tactic| first | (with_reducible exact lk_hit) | (refine lk_miss (by decide +kernel) ?_; walk_at "lk") | rfl)
local macro_rules | `(tactic| walk_at "len") => `(tactic| (refine Nat.lt_of_le_of_lt (m := 60) ?_ (by decide); (repeat (refine len_put ?_)); exact Nat.zero_le _))
local macro_rules | `(tactic| walk_at "len9") => `(tactic| (refine Nat.le_trans (m := 60) ?_ (by decide); (repeat (refine len_put ?_)); exact Nat.zero_le _))
local macro_rules | `(tactic| walk_at "own") => `(tactic| first | assumption | (refine Same.own ?_ (by assumption); walk_at "own"))

section
variable {P : Program} {w : World} {base : Heap}
variable {K : PySem.W.Frag} {mg : Str → Option Value}
/-! ### what is no list stands without the well -/
theorem SayAt.drp {z p : Addr} {H : Hp} {c b t : Nat} {u : Bool} (hw : WS H z) (h : SayAt K H p c b t u) : SayAt K (drp z H) p c b t u := by
  obtain ⟨dx, fs, h0, h⟩ := h
  exact ⟨dx, fs, get_drp hw h0 (by intro xs e; cases e), h⟩
theorem MarksAt.drp {z p : Addr} {H : Hp} {n : Nat} (hw : WS H z) (h : MarksAt K H p n) : MarksAt K (drp z H) p n := by
  obtain ⟨dx, fs, h0, h⟩ := h
  exact ⟨dx, fs, get_drp hw h0 (by intro xs e; cases e), h⟩
theorem SqT.drp {z a : Addr} {H : Hp} {xs : List V} (hw : WS H z) (h : SqT K H a xs) : SqT K (U.drp z H) a xs := by
  rcases (h) with (h | ⟨o, h⟩) | h
  · exact .inl (.inl (get_drp hw h (by intro xs e; cases e)))
  · exact .inl (.inr ⟨o, get_drp hw h (by intro xs e; cases e)⟩)
  · exact .inr h
theorem SaysOf.drp {z : Addr} {H : Hp} {n : Nat} {xs : List V} {ps : List UM.P} (hw : WS H z) (h : SaysOf K H n xs ps) : SaysOf K (U.drp z H) n xs ps :=
  ⟨h.1, fun i v hv => let ⟨p, a, t, h1, h2, h3, h4⟩ := h.2 i v hv; ⟨p, a, t, h1, h2, h3.drp hw, h4⟩⟩
theorem BookAt.drp {z b : Addr} {H : Hp} {n : Nat} {xs : List V} {ps : List UM.P} (hw : WS H z) (h : BookAt K H b n xs ps) : BookAt K (U.drp z H) b n xs ps := by
  obtain ⟨m, t, ⟨dx, fs, h0, hh⟩, hm, ht, hs⟩ := h
  exact ⟨m, t, ⟨dx, fs, get_drp hw h0 (by intro xs e; cases e), hh⟩, hm.drp hw, SqT.drp hw ht, hs.drp hw⟩
theorem BoundAt0.drp {z p t : Addr} {H : Hp} (hw : WS H z) (h : BoundAt0 K H p t) : BoundAt0 K (U.drp z H) p t := by
  obtain ⟨dx, fs, h0, h⟩ := h
  exact ⟨dx, fs, get_drp hw h0 (by intro xs e; cases e), h⟩
theorem ExcAt0.drp {z p t : Addr} {H : Hp} (hw : WS H z) (h : ExcAt0 K H p t) : ExcAt0 K (U.drp z H) p t := by
  obtain ⟨dx, fs, h0, h⟩ := h
  exact ⟨dx, fs, get_drp hw h0 (by intro xs e; cases e), h⟩
theorem WeiAt.drp {z p : Addr} {H : Hp} {ns : List Nat} (hw : WS H z) (h : WeiAt K H p ns) : WeiAt K (U.drp z H) p ns := by
  obtain ⟨t, ⟨dx, fs, h0, hh⟩, ht⟩ := h
  exact ⟨t, ⟨dx, fs, get_drp hw h0 (by intro xs e; cases e), hh⟩, SqT.drp hw ht⟩
theorem SumAns.drp {z r : Addr} {H : Hp} {n : Nat} {ps : List UM.P} {s : UM.P} {parts : Nat} {l : UM.Lay} (hw : WS H z) (h : SumAns K H r n ps s parts l) : SumAns K (U.drp z H) r n ps s parts l := by
  rcases h with ⟨h1, t, h2, h3⟩ | ⟨h1, q, ns, h2, h3, h4, h5⟩
  · exact .inl ⟨h1, t, h2.drp hw, get_drp hw h3 (by intro xs e; cases e)⟩
  · exact .inr ⟨h1, q, ns, h2.drp hw, h3.drp hw, h4, h5⟩
theorem SumAns.mono {r : Addr} {H H' : Hp} {n : Nat} {ps : List UM.P} {s : UM.P} {parts : Nat} {l : UM.Lay} (e : Same H H') (h : SumAns K H r n ps s parts l) : SumAns K H' r n ps s parts l := by
  rcases h with ⟨h1, t, h2, h3⟩ | ⟨h1, q, ns, h2, h3, h4, h5⟩
  · exact .inl ⟨h1, t, h2.mono e, e _ _ h3⟩
  · exact .inr ⟨h1, q, ns, h2.mono e, h3.mono e, h4, h5⟩
theorem SaysOf.put {H : Hp} {n : Nat} {xs ys zs : List V} {ps : List UM.P} {D : Addr} (h : SaysOf K H n xs ps) (hd : H D = some (.lst zs)) : SaysOf K (upd H D (.lst ys)) n xs ps := by
  refine ⟨h.1, fun i v hv => ?_⟩
  obtain ⟨p, a, t, h1, h2, ⟨dx, fs, h0, hh⟩, h4⟩ := h.2 i v hv
  exact ⟨p, a, t, h1, h2, ⟨dx, fs, by rw [upd_ne (ne_of h0 hd (by intro e; cases e))]; exact h0, hh⟩, h4⟩
/-- the told answer, as the judge sees it -/
theorem sum_ans {H : Hp} {r : Addr} {n : Nat} {ps : List UM.P} {s : UM.P} {parts : Nat} {l : UM.Lay} (D : UM.Done (UM.rowsU ps ++ [UM.rowF s]) n l) (hp : ∀ p ∈ ps, PairOk n p) (hs : PairOk n s) (hn : 0 < n) (h1 : 1 ≤ parts) (h12 : ps.length ≤ 12) (h : SumAns K H r n ps s parts l) : AnsAt K H r n ps s .non := by
  have hE := UM.end_maskL l
  rcases h with ⟨hS, t, hb, ht⟩ | ⟨hS, q, ns, he, hW, hst, hsm⟩
  · refine .inr ⟨t, (lotOf ps (UM.maskL (UM.openL l))).map fun (d : Nat) => (d : Int), hb, (by rw [← nV_int]; exact SqT.of ht), ?_, (told_lot D hp hs hE hS).symm⟩
    rw [List.length_map]
    exact Nat.le_trans (UM.fm_len _ ps) (by omega)
  · obtain ⟨k1, _, _, k4⟩ := told_steps D hp hs hE hS hn h1 hst
    refine .inl ⟨q, ns, he, hW, hsm, ?_⟩
    unfold wordE
    rw [if_pos k1, k4, if_pos rfl]
def spLaw (K : PySem.W.Frag) : Sp := fun vs H Q _ => ∃ (script : Addr) (ns : List Int), vs = [.ref script] ∧ SqL K H script (ns.map V.int) ∧ ns.length ≤ 63 ∧ ∀ H2, Q (.bl true) H2
theorem sc_law : FnScope ["_law_script", "_law_place", "_law_well_here", "_law_days", "_law_pairs_here", "_law_pair_here", "_law_saying_here", "_law_yields_here", "_law_book", "_law_pieces", "_law_told", "_law_is_told", "_law_each"] ["_law_script"] (defScope (top 122)) := ⟨rfl, rfl, rfl, by decide +kernel, rfl, by decide +kernel, by decide +kernel⟩
theorem ok_law (T : Txt K mg) {fd : FuncData} (F : Fun K "law" "law" (top 122) (ga K "law") fd) : FnOk P w K mg base CX0 9 (ga K "law") fd ["_law_script"] (spLaw K) := by
  obtain ⟨_, G_law_well, b_law_well, k_law_well⟩ := ok_law_well (P := P) (w := w) (base := base) T
  obtain ⟨_, G_law_one_of, b_law_one_of, k_law_one_of⟩ := ok_law_one_of (P := P) (w := w) (base := base) T
  obtain ⟨_, G_law_pairs, b_law_pairs, k_law_pairs⟩ := ok_law_pairs (P := P) (w := w) (base := base) T
  obtain ⟨_, G_law_further, b_law_further, k_law_further⟩ := ok_law_further (P := P) (w := w) (base := base) T
  obtain ⟨_, G_law_yields, b_law_yields, k_law_yields⟩ := ok_law_yields (P := P) (w := w) (base := base) T
  obtain ⟨_, G_law_saying, b_law_saying, k_law_saying⟩ := ok_law_saying (P := P) (w := w) (base := base) T
  obtain ⟨_, G_law_drawn, b_law_drawn, k_law_drawn⟩ := ok_law_drawn (P := P) (w := w) (base := base) T
  obtain ⟨_, G_law_filled, b_law_filled, k_law_filled⟩ := ok_law_filled (P := P) (w := w) (base := base) T
  obtain ⟨_, G_Book_init, b_Book_init, k_Book_init⟩ := ok_Book_init (P := P) (w := w) (base := base) T
  obtain ⟨_, G_law_marks, b_law_marks, k_law_marks⟩ := ok_law_marks (P := P) (w := w) (base := base) T
  obtain ⟨_, _, G_sum_bound, rd_sum_bound, b_sum_bound, kb_sum_bound, k_sum_bound⟩ := ok_sum_bound (P := P) (w := w) (base := base) T
  obtain ⟨_, G_law_bounded_right, b_law_bounded_right, k_law_bounded_right⟩ := ok_law_bounded_right (P := P) (w := w) (base := base) T
  obtain ⟨_, G_law_exceeds_right, b_law_exceeds_right, k_law_exceeds_right⟩ := ok_law_exceeds_right (P := P) (w := w) (base := base) T
  obtain ⟨_, G_law_judged, b_law_judged, k_law_judged⟩ := ok_law_judged (P := P) (w := w) (base := base) T
  obtain ⟨_, G_sharp_lot, b_sharp_lot, k_sharp_lot⟩ := ok_sharp_lot (P := P) (w := w) (base := base) T
  obtain ⟨_, G_tell, b_tell, k_tell⟩ := ok_tell (P := P) (w := w) (base := base) T
  obtain ⟨G_lift, k_lift⟩ := ok_lift (P := P) (w := w) (base := base) T
  refine F.ok sc_law (fun vs H Q E h => ?_) (fun cdv A outer s H vs Q E hr h => ?_)
  · obtain ⟨a, ns, rfl, _⟩ := h
    rfl
  · obtain ⟨a, ns, rfl, ha, h63, q⟩ := h
    refine ⟨_, (pss_cons (ps_for PassesOwn.never rfl (pi_rangeN rfl T.b_range (pa_cons (pe_callB (call_max2 rfl) (by rfl) T.b_max (by decide +kernel) (pa_cons pe_int (pa_cons (pe_callB (call_min2 rfl) (by rfl) T.b_min (by decide +kernel) (pa_cons pe_int (pa_cons (pe_callB call_len_seq (by rfl) T.b_len (by decide +kernel) (pa_cons (pv 0) pa_nil)) pa_nil))) pa_nil))) pa_nil)) (pg_name (i := 1) sc_law.nd rfl (Or.inl rfl)) (pss_cons (ps_set (i := 2) sc_law.nd rfl (Or.inr rfl) (pe_call G_law_well (hr.mono (by decide)) rfl T.g__law_well k_law_well b_law_well .nil pass0 (pa_cons (pv 0) (pa_cons (pv 1) pa_nil))))
      (pss_cons (ps_set (i := 3) sc_law.nd rfl (Or.inr rfl) (pe_call G_law_one_of (hr.mono (by decide)) rfl T.g__law_one_of k_law_one_of b_law_one_of .nil pass0 (pa_cons (pv 2) (pa_cons (pe_lst (pa_cons pe_int (pa_cons pe_int (pa_cons pe_int (pa_cons pe_int (pa_cons pe_int (pa_cons pe_int (pa_cons pe_int (pa_cons pe_int pa_nil))))))))) pa_nil))))
      (pss_cons (ps_set (i := 4) sc_law.nd rfl (Or.inl rfl) (pe_call G_law_pairs (hr.mono (by decide)) rfl T.g__law_pairs k_law_pairs b_law_pairs .nil pass0 (pa_cons (pv 2) (pa_cons (pv 3) (pa_cons pe_int pa_nil)))))
      (pss_cons (ps_set (i := 5) sc_law.nd rfl (Or.inl rfl) (pe_call G_law_further (hr.mono (by decide)) rfl T.g__law_further k_law_further b_law_further .nil pass0 (pa_cons (pv 2) (pa_cons (pv 3) (pa_cons (pv 4) pa_nil)))))
      (pss_cons (ps_par (i := 6) (j := 7) (by rfl) sc_law.nd rfl rfl (by decide) rfl rfl (pa_cons (pe_call G_law_saying (hr.mono (by decide)) rfl T.g__law_saying k_law_saying b_law_saying .nil pass0 (pa_cons (pv 2) (pa_cons (pv 5) (pa_cons (pv 3) (pa_cons pe_bl pa_nil))))) (pa_cons (pe_call G_law_yields (hr.mono (by decide)) rfl T.g__law_yields k_law_yields b_law_yields .nil pass0 (pa_cons (pv 4) (pa_cons (pv 5) pa_nil))) pa_nil)) (by rfl))
      (pss_cut (ps_if (PW.pt (pw_and (pt_cmpR (op_neD hr.units) (pv 4) (pe_lst pa_nil) (nomark _)) (pw_and1 (pt_cmpR op_eq (pe_call G_law_drawn (hr.mono (by decide)) rfl T.g__law_drawn k_law_drawn b_law_drawn .nil pass0 (pa_cons (pv 2) (pa_cons pe_int pa_nil))) pe_int (nomark _))))) (pss_one (ps_set (i := 4) sc_law.nd rfl (Or.inl rfl) (pe_call G_law_filled (hr.mono (by decide)) rfl T.g__law_filled k_law_filled b_law_filled .nil pass0 (pa_cons (pv 2) (pa_cons (pv 4) pa_nil))))) pss_nil)
      (pss_cut (ps_set (i := 8) sc_law.nd rfl (Or.inl rfl) (pe_make T.mk_Book G_Book_init (hr.mono (by decide)) rfl T.g_Book b_Book_init .nil pass0 (pa_cons (pe_call G_law_marks (hr.mono (by decide)) rfl T.g__law_marks k_law_marks b_law_marks .nil pass0 (pa_cons (pv 3) pa_nil)) (pa_cons (pe_lc (own := [("_law_each", 12)]) rfl sc_law.nd (pi_list (pv 4)) (blkOk_by (own := [("_law_each", 12)]) (N := ["_law_script", "_law_place", "_law_well_here", "_law_days", "_law_pairs_here", "_law_pair_here", "_law_saying_here", "_law_yields_here", "_law_book", "_law_pieces", "_law_told", "_law_is_told", "_law_each"]) (sc := defScope (top 122)) (by decide +kernel)) (fun _ _ _ _ _ => (pg_name (i := 12) sc_law.nd rfl (Or.inl rfl))) (fun _ _ _ _ _ => pts_nil) (fun _ _ _ _ _ => (pe_call G_law_saying (hr.mono (by decide)) rfl T.g__law_saying k_law_saying b_law_saying .nil pass0 (pa_cons (pv 2) (pa_cons (pv 12) (pa_cons (pv 3) (pa_cons pe_bl pa_nil))))))) pa_nil))))
      (pss_cons (ps_set (i := 9) sc_law.nd rfl (Or.inl rfl) (pe_call G_law_one_of (hr.mono (by decide)) rfl T.g__law_one_of k_law_one_of b_law_one_of .nil pass0 (pa_cons (pv 2) (pa_cons (pe_lst (pa_cons pe_int (pa_cons pe_int (pa_cons pe_int (pa_cons pe_int (pa_cons pe_int (pa_cons (pe_op op_add pe_int (pe_call G_law_drawn (hr.mono (by decide)) rfl T.g__law_drawn k_law_drawn b_law_drawn .nil pass0 (pa_cons (pv 2) (pa_cons pe_int pa_nil)))) pa_nil))))))) pa_nil))))
      (pss_cut (ps_set (i := 10) sc_law.nd rfl (Or.inl rfl) (pe_ifExp (pt_cmpR op_eq (pv 9) pe_int (nomark _)) (pe_call G_sum_bound (hr.mono (by decide)) rfl T.g_sum_bound k_sum_bound b_sum_bound rd_sum_bound pass0 (pa_cons (pv 8) (pa_cons (pv 6) pa_nil))) (pe_callN G_sum_bound (hr.mono (by decide)) rfl T.g_sum_bound k_sum_bound kb_sum_bound pass0 (pa_cons (pv 8) (pa_cons (pv 6) pa_nil)) (pk_cons (pv 9) pk_nil))))
      (pss_cut (ps_if (pt_val (pv 7)) (pss_one (ps_if (PW.pt (pw_or (pt_not (pt_val (pe_callB call_isi (by rfl) T.b_isinstance (by decide +kernel) (pa_cons (pv 10) (pa_cons (pe_glob (v := .ref (ga K "Bounded")) rfl T.g_Bounded rfl) pa_nil))))) (pw_or1 (pt_not (pt_val (pe_call G_law_bounded_right (hr.mono (by decide)) rfl T.g__law_bounded_right k_law_bounded_right b_law_bounded_right .nil pass0 (pa_cons (pv 2) (pa_cons (pv 3) (pa_cons (pv 4) (pa_cons (pv 5) (pa_cons (pv 10) pa_nil))))))))))) (pss_one (ps_ret pe_bl)) pss_nil)) (pss_one (ps_if (PW.pt (pw_or (pt_not (pt_val (pe_callB call_isi (by rfl) T.b_isinstance (by decide +kernel) (pa_cons (pv 10) (pa_cons (pe_glob (v := .ref (ga K "Exceeds")) rfl T.g_Exceeds rfl) pa_nil))))) (pw_or1 (pt_not (pt_val (pe_call G_law_exceeds_right (hr.mono (by decide)) rfl T.g__law_exceeds_right k_law_exceeds_right b_law_exceeds_right .nil pass0 (pa_cons (pv 3) (pa_cons (pv 4) (pa_cons (pv 5) (pa_cons (pv 9) (pa_cons (pv 10) pa_nil))))))))))) (pss_one (ps_ret pe_bl)) pss_nil)))
      (pss_cut (ps_if (pt_not (pt_val (pe_call G_law_judged (hr.mono (by decide)) rfl T.g__law_judged k_law_judged b_law_judged .nil pass0 (pa_cons (pv 2) (pa_cons (pv 8) (pa_cons (pv 6) (pa_cons (pv 4) (pa_cons (pv 5) (pa_cons (pv 10) pa_nil))))))))) (pss_one (ps_ret pe_bl)) pss_nil)
      (pss_cut (ps_if (pt_cmpR op_ne (pe_cmpR op_notN (pe_call G_sharp_lot (hr.mono (by decide)) rfl T.g_sharp_lot k_sharp_lot b_sharp_lot .nil pass0 (pa_cons (pv 8) (pa_cons (pv 6) pa_nil))) pe_non (nomark _)) (pv 7) (nomark _)) (pss_one (ps_ret pe_bl)) pss_nil)
      (pss_cons (ps_set (i := 11) sc_law.nd rfl (Or.inl rfl) (pe_callB call_isi (by rfl) T.b_isinstance (by decide +kernel) (pa_cons (pe_call G_tell (hr.mono (by decide)) rfl T.g_tell k_tell b_tell .nil pass0 (pa_cons (pv 8) (pa_cons (pv 6) pa_nil))) (pa_cons (pe_glob (v := .ref (ga K "Told")) rfl T.g_Told rfl) pa_nil)))) (pss_one (ps_if (PW.pt (pw_or (PW.pt (pw_and (pt_val (pv 7)) (pw_and1 (pt_not (pt_val (pv 11)))))) (pw_or1 (PW.pt (pw_and (pt_val (pv 11)) (pw_and (pt_not (pt_val (pv 7))) (pw_and1 (pt_not (pt_val (pe_callB call_isi (by rfl) T.b_isinstance (by decide +kernel) (pa_cons (pe_callF G_lift (hr.mono (by decide)) rfl T.g_lift k_lift pass0 (pa_cons (pv 8) pa_nil)) (pa_cons (pe_glob (v := .ref (ga K "Stuck")) rfl T.g_Stuck rfl) pa_nil)))))))))))) (pss_one (ps_ret pe_bl)) pss_nil)))))))))))))))) (pss_one (ps_ret pe_bl))), ?_⟩
    walk_at "rd"
    obtain ⟨m, hm, hm2⟩ : ∃ m : Nat, (if (if ((ns.map V.int).length : Int) < 2 then ((ns.map V.int).length : Int) else 2) > 1 then (if ((ns.map V.int).length : Int) < 2 then ((ns.map V.int).length : Int) else 2) else 1) = (m : Int) ∧ m ≤ 2 := by
      refine ⟨if 2 ≤ (ns.map V.int).length then 2 else 1, ?_, by split <;> omega⟩
      by_cases c : 2 ≤ (ns.map V.int).length
      · rw [if_pos c, if_neg (show ¬ (((ns.map V.int).length : Int) < 2) by omega)]
        rfl
      · rw [if_neg c, if_pos (show (((ns.map V.int).length : Int) < 2) by omega), if_neg (by omega)]
        rfl
    rw [hm]
    refine ⟨m, rfl, by omega, for_it (walk_rangeN (n := m)) (fun i σ H' => ∃ v1 v2 v3 v4 v5 v6 v7 v8 v9 v10 v11 : Option V, σ = [some (.ref a), v1, v2, v3, v4, v5, v6, v7, v8, v9, v10, v11, none] ∧ Same H H') ⟨none, none, none, none, none, none, none, none, none, none, none, rfl, Same.refl _⟩ (fun _ _ _ _ _ => trivial) ?_ ?_⟩
    rotate_left
    · rintro σ H1 ⟨v1, v2, v3, v4, v5, v6, v7, v8, v9, v10, v11, rfl, e1⟩
      walk_at "rd"
      exact q H1
    rintro i x σ H2 H1 hi ⟨v1, v2, v3, v4, v5, v6, v7, v8, v9, v10, v11, rfl, e1⟩ ⟨rfl, rfl⟩
    walk_at "rd"
    refine ⟨a, ns, i, rfl, e1.seq ha, h63, fun H3 z e3 hz hw => ?_⟩
    have T0 := T
    have e13 := e1.trans e3
    have ez : ∀ {H' : Hp}, FW z H3 H' → Same H H' := fun f => (same_drp e13 (Same.free e1 hz)).trans f.same
    walk_at "rd"
    refine ⟨by show 8 ≤ sizeLine; decide, fun T hT => ?_⟩
    have f4 := (FW.refl hw).push hT (o := .lst [V.int 4, .int 4, .int 4, .int 2, .int 8, .int 4, .int 16, .int 4])
    have zT := hw.ne hT
    walk_at "rd"
    refine ⟨z, T, [V.int 4, .int 4, .int 4, .int 2, .int 8, .int 4, .int 16, .int 4], rfl, f4.ws, SqL.of ((drp_ne zT.symm).trans upd_same), Nat.succ_pos _, Nat.le_of_ble_eq_true rfl, fun H5 v f5 hv => ?_⟩
    obtain ⟨n, hn4, rfl⟩ : ∃ n : Nat, Four n ∧ v = .int (n : Nat) := by
      simp only [List.mem_cons, List.not_mem_nil, or_false] at hv
      have h4 : ∃ n : Nat, Four n ∧ V.int 4 = .int (n : Nat) := ⟨4, .inr (.inl rfl), rfl⟩
      rcases hv with rfl | rfl | rfl | rfl | rfl | rfl | rfl | rfl
      · exact h4
      · exact h4
      · exact h4
      · exact ⟨2, .inl rfl, rfl⟩
      · exact ⟨8, .inr (.inr (.inl rfl)), rfl⟩
      · exact h4
      · exact ⟨16, .inr (.inr (.inr rfl)), rfl⟩
      · exact h4
    have f35 := f4.trans f5
    have hn0 : 0 < n := by rcases hn4 with h | h | h | h <;> omega
    have hn16 : n ≤ 16 := by rcases hn4 with h | h | h | h <;> omega
    walk_at "rd"
    refine ⟨f35.ws, hn0, hn16, by decide, fun H6 pl xs ps f6 hpl hpr hok h5 => ?_⟩
    have f36 := f35.trans f6
    have h5' : ps.length ≤ 5 := h5
    walk_at "rd"
    refine ⟨z, pl, n, xs, ps, rfl, f6.ws, SqL.of hpl, hpr, hok, by omega, hn0, hn16, fun H7 pr s f7 hprr hsok => ?_⟩
    walk_at "rd"
    refine ⟨z, pr, n, s, true, rfl, f7.ws, hprr, hsok, hn16, fun H8 sa t f8 hsa hsp => ?_⟩
    have f68 := f7.trans f8
    walk_at "rd"
    refine ⟨pl, pr, xs, ps, s, rfl, SqL.of (f68.same _ _ hpl), hpr.mono f68.same, by omega, f8.same _ _ hprr, fun H9 yb e9 hyb => ?_⟩
    have f9 := FW.of f8.ws e9
    have f39 : FW z H3 H9 := (f36.trans f68).trans f9
    have hpl9 : drp z H9 pl = some (.lst xs) := (f68.trans f9).dd _ _ hpl
    have hpr9 : Prs (drp z H9) xs ps := hpr.mono (f68.trans f9).dd
    have hp9 : drp z H9 pr = some (pV s) := (f8.trans f9).dd _ _ hprr
    have hsa9 : SayAt K (drp z H9) sa s.1 s.2 t true := hsa.mono f9.dd
    clear hpl hpr hprr hsa
    walk_at "rd"
    refine ⟨fun σ H' => ∃ (pl : Addr) (xs : List V) (ps : List UM.P), σ = [some (.ref a), some (.int (i : Nat)), some (.ref z), some (.int (n : Nat)), some (.ref pl), some (.ref pr), some (.ref sa), some (.bl yb), v8, v9, v10, v11, none] ∧ FW z H9 H' ∧ drp z H' pl = some (.lst xs) ∧ Prs (drp z H') xs ps ∧ (∀ p ∈ ps, PairOk n p) ∧ ps.length ≤ 12 ∧ (yb = true ↔ UM.Y ps s), ?_, ?_⟩
    · walk_at "rd"
      refine ⟨by show 0 ≤ sizeLine; decide, fun eb heb => ?_⟩
      have fe : FW z H9 (upd H9 eb (.lst [])) := (FW.refl f9.ws).push heb
      have heb2 : SqL K (upd H9 eb (.lst [])) eb [] := SqL.of upd_same
      revert fe heb2
      generalize upd H9 eb (.lst []) = H10
      intro fe heb2
      refine ne_emptyP (Same.seq fe.same (SqL.of hpl9)) (hpr9.mono fe.same).dp heb2 ?_
      cases hxe : xs.isEmpty with
      | true =>
        walk_at "rd"
        exact ⟨pl, xs, ps, rfl, fe, fe.dd _ _ hpl9, hpr9.mono fe.dd, hok, by omega, hyb⟩
      | false =>
        walk_at "rd"
        refine ⟨fe.ws, by decide, small60 (by decide), fun H11 d11 f11 hd11 => ?_⟩
        have f911 := fe.trans f11
        walk_at "rd"
        by_cases h110 : d11 = 0
        rotate_left
        · rw [vint_ne (show (d11 : Int) ≠ 0 by omega)]
          walk_at "rd"
          exact ⟨pl, xs, ps, rfl, f911, f911.dd _ _ hpl9, hpr9.mono f911.dd, hok, by omega, hyb⟩
        subst h110
        walk_at "rd"
        have hxs0 : 0 < ps.length := by
          rw [← hpr9.1]
          cases xs with
          | nil => cases hxe
          | cons => exact Nat.succ_pos _
        refine ⟨z, pl, xs, ps, rfl, f11.ws, f911.dd _ _ hpl9, hpr9.mono f911.dd, hxs0, by omega, fun H12 r12 ys qs f12 hr12 hq hsub hql hsup => ?_⟩
        exact ⟨r12, ys, qs, rfl, f911.trans f12, hr12, hq, fun p hp => hok p (hsub p hp), hql, hyb.trans ⟨fun y => y.congr hsup, fun y => y.congr hsub⟩⟩
    · clear hpl9 hpr9 hyb hok h5 h5'
      rintro σ H10 ⟨pl, xs, ps, rfl, f10, hpl, hpr, hok, h12, hyb⟩
      have f310 := f39.trans f10
      have hp10 := f10.dd _ _ hp9
      have hsa10 := hsa9.mono f10.dd
      refine ⟨fun σ H' => ∃ (b : Addr) (xb : List V), σ = [some (.ref a), some (.int (i : Nat)), some (.ref z), some (.int (n : Nat)), some (.ref pl), some (.ref pr), some (.ref sa), some (.bl yb), some (.ref b), v9, v10, v11, none] ∧ FW z H10 H' ∧ BookAt K (drp z H') b n xb ps, ?_, ?_⟩
      · walk_at "rd"
        refine ⟨hn4, fun H11 mk e11 hmk => ?_⟩
        have f11 := FW.of f10.ws e11
        have hmk11 := hmk.drp f11.ws
        walk_at "rd"
        refine ⟨⟨_, SqL.of (f11.same _ _ hpl)⟩, fun D hD => lc_it (walk_list (K := K) (a := pl) (xs := xs)) (fun i H' => FW z H11 H' ∧ ∃ acc, H' D = some (.lst acc) ∧ SaysOf K (drp z H') n acc (ps.take i)) ⟨(FW.refl f11.ws).push hD, [], upd_same, rfl, fun i v hv => by cases hv⟩ (fun i H' _ h => SqL.of ((f11.trans h.1).same _ _ hpl)) ?_ ?_⟩
        · rintro j x H13 H12 hj ⟨f12, acc, h12', hso⟩ ⟨rfl, hx1⟩
          obtain ⟨p, aa, hp1, rfl, hp3⟩ := hpr.2 j x hx1
          have zD := f11.ws.ne hD
          have f1012 := f11.trans f12
          rw [hpr.1] at hj
          walk_at "rd"
          refine ⟨z, aa, n, p, true, rfl, f12.ws, f1012.dd _ _ hp3, hok p (List.mem_of_getElem? hp1), hn16, fun H14 r14 t14 f14 hs14 hP14 => ?_⟩
          refine ⟨acc, f14.get zD h12', ?_, (f12.trans f14).put zD hD, acc ++ [.ref r14], upd_same, ?_⟩
          · rw [hso.1, List.length_take]
            exact Nat.lt_of_le_of_lt (Nat.min_le_left _ _) (Nat.lt_of_lt_of_le (by omega : j < 12) (by decide))
          · have et : ps.take (j + 1) = ps.take j ++ [p] := by rw [List.take_add_one, hp1]; rfl
            rw [drp_upd zD, et]
            exact ((hso.mono f14.dd).snoc hs14 hP14).put (zs := acc) (by rw [drp_ne zD.symm]; exact f14.get zD h12')
        · rintro H12 ⟨f12, acc, h12', hso⟩
          rw [hpr.1, List.take_length] at hso
          walk_at "rd"
          intro x dx nx ndx nex
          refine ⟨H12, x, dx, mk, D, n, acc, ps, rfl, upd_same, Same.mk nx ndx, nx, (hmk11.mono f12.dd).mono drp_same, SqL.of h12', hso.mono drp_same, by rw [hso.1]; omega, fun H13 e13 hB => ⟨rfl, ?_⟩⟩
          have f13 := (f11.trans f12).trans (FW.of f12.ws e13)
          exact ⟨x, acc, rfl, f13, hB.drp f13.ws⟩
      · rintro σ H11 ⟨b, xb, rfl, f11, hB⟩
        walk_at "rd"
        refine ⟨f11.ws, by decide, Nat.lt_of_lt_of_le (by decide : 1000000 < 2 ^ 20) (UM.p2le (by decide)), fun H12 d12 f12 hd12 => ?_⟩
        have hd12' : d12 < 1000000 := hd12
        have f112 := f11.trans f12
        walk_at "rd"
        refine ⟨by show 6 ≤ sizeLine; decide, fun T2 hT2 => ?_⟩
        have fT := f112.push hT2 (o := .lst [V.int 1, .int 2, .int 3, .int 17, .int 1000, .int (1 + (d12 : Nat))])
        have zT2 := f12.ws.ne hT2
        walk_at "rd"
        refine ⟨z, T2, [V.int 1, .int 2, .int 3, .int 17, .int 1000, .int (1 + (d12 : Nat))], rfl, fT.ws, SqL.of ((drp_ne zT2.symm).trans upd_same), Nat.succ_pos _, Nat.le_of_ble_eq_true rfl, fun H13 v f13 hv => ?_⟩
        obtain ⟨parts, hq1, hq6, rfl⟩ : ∃ parts : Nat, 1 ≤ parts ∧ parts ≤ 1000000 ∧ v = .int (parts : Nat) := by
          simp only [List.mem_cons, List.not_mem_nil, or_false] at hv
          rcases (hv) with rfl | rfl | rfl | rfl | rfl | rfl
          · exact ⟨1, by decide, by decide, rfl⟩
          · exact ⟨2, by decide, by decide, rfl⟩
          · exact ⟨3, by decide, by decide, rfl⟩
          · exact ⟨17, by decide, by decide, rfl⟩
          · exact ⟨1000, by decide, by decide, rfl⟩
          · exact ⟨1 + d12, by omega, by omega, by rw [Int.natCast_add]; rfl⟩
        have f1013 := fT.trans f13
        have hB13 : BookAt K (drp z H13) b n xb ps := hB.mono (f12.trans ((FW.push (FW.refl f12.ws) hT2).trans f13)).dd
        have hxb : xb.length ≤ 12 := by rw [hB.len]; exact h12
        have hsa13 := hsa10.mono f1013.dd
        walk_at "rd"
        refine ⟨fun σ H' => ∃ (r : Addr) (l : UM.Lay), σ = [some (.ref a), some (.int (i : Nat)), some (.ref z), some (.int (n : Nat)), some (.ref pl), some (.ref pr), some (.ref sa), some (.bl yb), some (.ref b), some (.int (parts : Nat)), some (.ref r), v11, none] ∧ FW z H13 H' ∧ UM.Done (UM.rowsU ps ++ [UM.rowF s]) n l ∧ SumAns K (drp z H') r n ps s parts l, ?_, ?_⟩
        · walk_at "rd"
          by_cases hq2 : parts = 2
          · subst hq2
            walk_at "rd"
            refine ⟨b, sa, n, xb, ps, s.1, s.2, t, 2, rfl, hB13.mono drp_same, hsa13.mono drp_same, hsp, hn4, hxb, hq1, hq6, fun H14 r l e14 hd hA => ?_⟩
            have f14 := FW.of f13.ws e14
            exact ⟨r, l, rfl, f14, hd, hA.drp f14.ws⟩
          · rw [vint_ne (show (parts : Int) ≠ 2 by omega)]
            walk_at "rd"
            refine ⟨b, sa, n, xb, ps, s.1, s.2, t, parts, rfl, hB13.mono drp_same, hsa13.mono drp_same, hsp, hn4, hxb, hq1, hq6, fun H14 r l e14 hd hA => ?_⟩
            have f14 := FW.of f13.ws e14
            exact ⟨r, l, rfl, f14, hd, hA.drp f14.ws⟩
        · rintro σ H14 ⟨r, l, rfl, f14, hd, hA⟩
          have f1014 := f1013.trans f14
          have f314 := f310.trans f1014
          have hpl14 := f1014.dd _ _ hpl
          have hpr14 := hpr.mono f1014.dd
          have hp14 := f1014.dd _ _ hp10
          have hB14 := hB13.mono f14.dd
          have hsa14 := hsa13.mono f14.dd
          have hE := UM.end_maskL l
          have hy := y_iff hd hok hsok hE
          have hAns := sum_ans hd hok hsok hn0 hq1 h12 hA
          clear hpl hpr hp10 hB13 hsa13 hB hsa10
          refine ⟨fun σ H' => σ = [some (.ref a), some (.int (i : Nat)), some (.ref z), some (.int (n : Nat)), some (.ref pl), some (.ref pr), some (.ref sa), some (.bl yb), some (.ref b), some (.int (parts : Nat)), some (.ref r), v11, none] ∧ FW z H14 H', ?_, ?_⟩
          · walk_at "rd"
            cases yb with
            | true =>
              have y : UM.Y ps s := hyb.mp rfl
              have hS := hy.mpr y
              rcases hA with ⟨_, t', hb, ht⟩ | ⟨hS2, _⟩
              rotate_left
              · exact absurd hS hS2
              walk_at "rd"
              refine ⟨_, _, _, _, true, rfl, .own _, (hb.mono drp_same).ty T0, T0.i_Bounded_Bounded, ?_⟩
              walk_at "rd"
              refine ⟨z, pl, pr, r, n, xs, ps, s, t', lotOf ps (UM.maskL (UM.openL l)), rfl, f14.ws, SqL.of hpl14, hpr14, hp14, hb, ht, hn0, hn16, h12, Nat.le_trans (UM.fm_len _ ps) h12, fun i hi => lot_lt hi, told_lot hd hok hsok hE hS,
                lot_bound hok (fun i hi => lot_lt hi) (widest_sharp hd hE hsok.dis (fun p hp => (hok p hp).c1) hsok.b1 hS), fun H15 f15 => ?_⟩
              walk_at "rd"
              exact f15
            | false =>
              have y : ¬ UM.Y ps s := fun y => Bool.false_ne_true (hyb.mpr y)
              rcases hA with ⟨hS, _⟩ | ⟨hS, qa, ms, hex, hW, hst, hsm⟩
              · exact absurd (hy.mp hS) y
              obtain ⟨k1, k2, k3, k4⟩ := told_steps hd hok hsok hE hS hn0 hq1 hst
              walk_at "rd"
              refine ⟨_, _, _, _, true, rfl, .own _, (hex.mono drp_same).ty T0, T0.i_Exceeds_Exceeds, ?_⟩
              walk_at "rd"
              refine ⟨pl, pr, r, qa, n, parts, xs, ps, s, ms, rfl, SqL.of (drp_same _ _ hpl14), hpr14.mono drp_same, drp_same _ _ hp14, hex.mono drp_same, hW.mono drp_same, hsm, k1, h12, hq1, hq6, k2, k3, k4, fun H15 e15 => ?_⟩
              walk_at "rd"
              exact FW.of f14.ws e15
          · rintro σ H15 ⟨rfl, f15⟩
            refine ⟨fun σ H' => σ = [some (.ref a), some (.int (i : Nat)), some (.ref z), some (.int (n : Nat)), some (.ref pl), some (.ref pr), some (.ref sa), some (.bl yb), some (.ref b), some (.int (parts : Nat)), some (.ref r), v11, none] ∧ FW z H14 H', ?_, ?_⟩
            · walk_at "rd"
              refine ⟨z, b, sa, pl, pr, r, n, xb, xs, ps, s, t, rfl, f15.ws, hB14.mono f15.dd, hsa14.mono f15.dd, hsp, SqL.of (f15.dd _ _ hpl14), hpr14.mono f15.dd, f15.dd _ _ hp14, hAns.mono f15.dd, hn4, h12, fun H16 f16 => ?_⟩
              walk_at "rd"
              exact f15.trans f16
            · clear f15
              rintro σ H16 ⟨rfl, f16⟩
              have hB16 := hB14.mono f16.same
              have hsa16 := hsa14.mono f16.same
              refine ⟨fun σ H' => σ = [some (.ref a), some (.int (i : Nat)), some (.ref z), some (.int (n : Nat)), some (.ref pl), some (.ref pr), some (.ref sa), some (.bl yb), some (.ref b), some (.int (parts : Nat)), some (.ref r), v11, none] ∧ FW z H14 H', ?_, ?_⟩
              · walk_at "rd"
                refine ⟨n, s.1, s.2, t, b, sa, xb, ps, rfl, hB16, hsa16, hsp, hn0, hn16, hxb, fun H17 l17 e17 hd17 => ⟨fun hS r17 => ?_, fun hS => ?_⟩⟩
                · have : yb = true := hyb.mpr ((y_iff hd17 hok hsok (UM.end_maskO l17)).mp hS)
                  subst this
                  walk_at "rd"
                  exact f16.trans (FW.of f16.ws e17)
                · have : yb = false := by
                    cases yb with
                    | false => rfl
                    | true => exact absurd ((y_iff hd17 hok hsok (UM.end_maskO l17)).mpr (hyb.mp rfl)) hS
                  subst this
                  walk_at "rd"
                  exact f16.trans (FW.of f16.ws e17)
              · clear hB16 hsa16 f16
                rintro σ H16 ⟨rfl, f16⟩
                have hB16 := hB14.mono f16.same
                have hsa16 := hsa14.mono f16.same
                have f316 := f314.trans f16
                walk_at "rd"
                refine ⟨b, sa, n, xb, ps, s.1, s.2, t, rfl, hB16, hsa16, hsp, hn4, hxb, fun H18 r18 l18 e18 hd18 hTl => ?_⟩
                have f318 := f316.trans (FW.of f16.ws e18)
                rcases hTl with ⟨ho, hN⟩ | ⟨ho, hTo⟩
                · have : yb = false := by
                    cases yb with
                    | false => rfl
                    | true => exact absurd ho (told_yes hd18 hok hsok (hyb.mp rfl))
                  subst this
                  walk_at "rd"
                  refine ⟨_, _, _, _, false, rfl, .own _, hN.ty T0, T0.i_NotTold_Told, ?_⟩
                  walk_at "rd"
                  exact ⟨_, _, _, _, _, _, _, _, _, _, _, rfl, ez f318⟩
                · walk_at "rd"
                  refine ⟨_, _, _, _, true, rfl, .own _, hTo.ty T0, T0.i_Told_Told, ?_⟩
                  cases yb with
                  | true =>
                    walk_at "rd"
                    exact ⟨_, _, _, _, _, _, _, _, _, _, _, rfl, ez f318⟩
                  | false =>
                    have yn : ¬ UM.Y ps s := fun y => Bool.false_ne_true (hyb.mpr y)
                    walk_at "rd"
                    refine ⟨[V.ref b], [], rfl, rfl, by show 0 ≤ sizeLine; decide, fun pp hpp => ?_⟩
                    have e19 : Same H18 (upd H18 pp (.tup [])) := Same.new hpp
                    have e1619 := e18.trans e19
                    refine ⟨b, pp, n, xb, [], ps, [], rfl, hB16.mono e1619, SqT.of upd_same, ⟨rfl, fun i v hv => by cases hv⟩, hn4, hxb, Nat.zero_le _, fun H20 r20 k20 e20 hd20 hL20 => ?_⟩
                    rw [List.append_nil] at hd20
                    have hk := told_no hd hd18 hd20 hok hsok yn ho
                    rcases hL20 with ⟨h0, _⟩ | ⟨_, hSt⟩
                    · exact absurd h0 hk
                    walk_at "rd"
                    refine ⟨_, _, _, _, true, rfl, .own _, hSt.ty T0, T0.i_Stuck_Stuck, ?_⟩
                    walk_at "rd"
                    exact ⟨_, _, _, _, _, _, _, _, _, _, _, rfl, ez (f318.trans (FW.of f318.ws (e19.trans e20)))⟩
end
end U
set_option maxHeartbeats 0
namespace U
open PySem L2 He
theorem law_facts {P : Program} {w : World} {K : PySem.W.Frag} {h : Heap} {mg : Str → Option Value} {f : Addr} (X : K.In h) (G : h.Ns mainGlobals mg) (hf : mg ("law" : Str) = some (.ref f)) (c : SaysX hfa hfn hxb K) :
    ∃ fd : FuncData, (∀ (s : Shared) (v : Value), BindsTo s fd ⟨[v], []⟩ [("_law_script", v)]) ∧ ∀ base : Heap, K.In base → base.Ns mainGlobals mg → FnOk P w K mg base CX0 9 f fd ["_law_script"] (spLaw K) := by
  obtain ⟨fd, FD⟩ := c.def_ 56
  have T := txt_of X G c
  have e := hf.symm.trans T.g_law
  cases e
  have bd := FunD.bindsA (ps := ["_law_script"]) FD fun _ _ _ _ _ _ us hl => match us, hl with | [_], _ => rfl
  exact ⟨fd, fun s v => bd s [v] rfl, fun base _ _ => ok_law T (He5.fun_of FD)⟩
end U
open PyProof.Rows PySem PySem.W PySem.Calls
theorem PySem.Challenge.cw_usualdays_k46_whole_sums_of_doubts_for_a_holds : PySem.Challenge.rw_usualdays_k46_whole_sums_of_doubts_for_a.Holds := by
  w_on; o_law
  refine HandSHeadRun.head_imp (r := OpenLaw.row PySem.Challenge.rw_usualdays_k46_whole_sums_of_doubts_for_a) (q := U.qv) (H := U.hk) (ob := U.ob) (M := 20000) (loose := U.hnm) (d := HandSHeadRun.topDef (OpenLaw.row PySem.Challenge.rw_usualdays_k46_whole_sums_of_doubts_for_a).prog 122) (kwd := []) U.ob_eq
    U.run (by kernel_rfl) (by kernel_rfl) (by kernel_rfl) (by rfl) (by first | assumption | decide +kernel) (by decide +kernel) ⟨rfl, rfl, rfl, rfl, rfl, by decide +kernel⟩ ?hw ?hc
  case hw => w_witness2
  case hc =>
    refine L2.walk_ofE (l := PySem.Challenge.rw_usualdays_k46_whole_sums_of_doubts_for_a) (n := 63) (k := 9) (x := "_law_script") (CX := L2.CX0) rfl (by decide) (by kernel_rfl) ⟨rfl, by decide, by decide⟩ ?F (fun _ _ _ _ z => z)
    intro w mg fa h Y G hmg0
    obtain ⟨K, KX, c⟩ := Y
    have at_law : mg ("law" : PySem.Str) = some (.ref fa) := by
      have e : (HandSHeadRun.topDef (OpenLaw.row PySem.Challenge.rw_usualdays_k46_whole_sums_of_doubts_for_a).prog 122).name = ("law" : PySem.Str) := by kernel_rfl
      rw [← e]
      exact hmg0
    obtain ⟨fd, hb, hF⟩ := U.law_facts (P := (PySem.Challenge.rw_usualdays_k46_whole_sums_of_doubts_for_a).prog) (w := w) KX G at_law c
    exact ⟨K, fd, U.spLaw K, KX, hb, fun H a ns hl _ hS => ⟨a, ns, rfl, hS, hl, fun _ => rfl⟩, hF⟩
