import PyProof.Rows.All
import Wide.All
import OpenK.AllK
import Wide.FinOn
import HandS.ForMost
import HandS.SetFor
import HandS.Strs
import HandS.Conv
import HandS.Deep
import HandS.Defaults
import HandS.IsInst
import HandS.Style
import HandS.TupAny
import HandS.WideBits
import PyProof.ReprLen
import KE.SortData
import KE.GoesEnum
import HandS.Codes
import HandS.Walk
import PySem.Challenge.RW_twoabove_k22_whole_flat_lots
set_option Elab.async false
set_option maxRecDepth 100000
set_option maxHeartbeats 4000000
set_option linter.all false
/-! The plain mathematics: lots as bits, closures, flat rows from behind. No program in sight. -/
namespace K22

/-! ### bits and rising lists -/
/-- a without b, bit by bit -/
def lessB (a b : Nat) : Nat := a ^^^ (a &&& b)
theorem testBit_lessB (a b i : Nat) : (lessB a b).testBit i = (a.testBit i && !b.testBit i) := by
  unfold lessB
  rw [Nat.testBit_xor, Nat.testBit_and]
  cases a.testBit i <;> cases b.testBit i <;> rfl
theorem lessB_lt {a b n : Nat} (h : a < 2 ^ n) : lessB a b < 2 ^ n := by
  unfold lessB
  exact Nat.xor_lt_two_pow h (Nat.lt_of_le_of_lt Nat.and_le_left h)
/-- the places of the bits of b, rising -/
def told (b : Nat) : List Nat := (List.range 8).filter fun i => b.testBit i
theorem mem_told {b i : Nat} (hb : b < 256) : i ∈ told b ↔ b.testBit i = true := by
  unfold told
  rw [List.mem_filter, List.mem_range]
  refine ⟨fun h => h.2, fun h => ⟨?_, h⟩⟩
  rcases Nat.lt_or_ge i 8 with q | q
  · exact q
  · have h2 : (2 : Nat) ^ 8 ≤ 2 ^ i := Nat.pow_le_pow_right (by decide) q
    have h3 : b < 2 ^ i := Nat.lt_of_lt_of_le hb h2
    rw [Nat.testBit_lt_two_pow h3] at h
    cases h
theorem told_lt {b i : Nat} (h : i ∈ told b) : i < 8 := by
  unfold told at h
  rw [List.mem_filter, List.mem_range] at h
  exact h.1
theorem told_lt_n {b i n : Nat} (hb : b < 2 ^ n) (h : i ∈ told b) : i < n := by
  unfold told at h
  rw [List.mem_filter] at h
  rcases Nat.lt_or_ge i n with q | q
  · exact q
  · have h3 : b < 2 ^ i := Nat.lt_of_lt_of_le hb (Nat.pow_le_pow_right (by decide) q)
    have h2 := h.2
    rw [Nat.testBit_lt_two_pow h3] at h2
    cases h2
theorem range_rising (n : Nat) : (List.range n).Pairwise (· < ·) := List.pairwise_lt_range
theorem told_rising (b : Nat) : (told b).Pairwise (· < ·) := List.Pairwise.filter _ (range_rising 8)
theorem told_nodup (b : Nat) : (told b).Nodup := (told_rising b).imp fun h => Nat.ne_of_lt h
theorem told_length (b : Nat) : (told b).length ≤ 8 := by
  have := List.length_filter_le (fun i => b.testBit i) (List.range 8)
  rw [List.length_range] at this
  exact this
theorem told_zero : told 0 = [] := by decide
/-- the bits of a list of places -/
def bitsN (l : List Nat) : Nat := l.foldl (fun f s => f ||| 1 <<< s) 0
theorem testBit_fold (i : Nat) : ∀ (l : List Nat) (a : Nat), (l.foldl (fun f s => f ||| 1 <<< s) a).testBit i = (a.testBit i || decide (i ∈ l))
  | [], a => by simp
  | s :: l, a => by
    rw [List.foldl_cons, testBit_fold i l, Nat.testBit_or, Nat.one_shiftLeft, Nat.testBit_two_pow]
    by_cases e : s = i
    · subst e
      simp
    · have e' : ¬ i = s := fun z => e z.symm
      simp [e, e']
theorem testBit_bitsN (l : List Nat) (i : Nat) : (bitsN l).testBit i = decide (i ∈ l) := by
  unfold bitsN
  rw [testBit_fold, Nat.zero_testBit, Bool.false_or]
theorem bitsN_snoc (l : List Nat) (s : Nat) : bitsN (l ++ [s]) = bitsN l ||| 1 <<< s := by
  unfold bitsN
  rw [List.foldl_append]
  rfl
theorem bitsN_of {l : List Nat} {b : Nat} (h : ∀ i, i ∈ l ↔ b.testBit i = true) : bitsN l = b := by
  refine Nat.eq_of_testBit_eq fun i => ?_
  rw [testBit_bitsN]
  cases e : b.testBit i with
  | true => exact decide_eq_true ((h i).mpr e)
  | false => exact decide_eq_false fun q => by rw [(h i).mp q] at e; cases e
theorem bitsN_told {b : Nat} (hb : b < 256) : bitsN (told b) = b := bitsN_of fun _ => mem_told hb
theorem told_inj {a b : Nat} (ha : a < 256) (hb : b < 256) (e : told a = told b) : a = b := by
  rw [← bitsN_told ha, ← bitsN_told hb, e]
theorem bitsN_lt {l : List Nat} {n : Nat} (h : ∀ i ∈ l, i < n) : bitsN l < 2 ^ n := by
  refine Nat.lt_pow_two_of_testBit _ fun i hi => ?_
  rw [testBit_bitsN]
  exact decide_eq_false fun q => by have := h i q; omega
theorem pow_le_256 {n : Nat} (h : n ≤ 8) : 2 ^ n ≤ 256 := by
  have : (2 : Nat) ^ n ≤ 2 ^ 8 := Nat.pow_le_pow_right (by decide) h
  exact this
theorem told_ne_nil {b : Nat} (hb : b < 256) (h0 : b ≠ 0) : told b ≠ [] := fun e => h0 (told_inj hb (by decide) (e.trans told_zero.symm))
/-- two strictly rising lists with the same members are one -/
theorem rising_unique {α : Type} {lt : α → α → Prop} (irr : ∀ x, ¬ lt x x) (asy : ∀ x y, lt x y → ¬ lt y x) : ∀ {l m : List α}, l.Pairwise lt → m.Pairwise lt → (∀ x, x ∈ l ↔ x ∈ m) → l = m
  | [], [], _, _, _ => rfl
  | [], y :: m, _, _, h => absurd ((h y).mpr List.mem_cons_self) List.not_mem_nil
  | x :: l, [], _, _, h => absurd ((h x).mp List.mem_cons_self) List.not_mem_nil
  | x :: l, y :: m, hl, hm, h => by
    rw [List.pairwise_cons] at hl hm
    have e : x = y := by
      rcases List.mem_cons.mp ((h x).mp List.mem_cons_self) with e | e
      · exact e
      · rcases List.mem_cons.mp ((h y).mpr List.mem_cons_self) with e' | e'
        · exact e'.symm
        · exact absurd (hm.1 x e) (asy _ _ (hl.1 y e'))
    subst e
    congr 1
    refine rising_unique irr asy hl.2 hm.2 fun z => ⟨fun hz => ?_, fun hz => ?_⟩
    · rcases List.mem_cons.mp ((h z).mp (List.mem_cons_of_mem _ hz)) with e | e
      · subst e
        exact absurd (hl.1 z hz) (irr z)
      · exact e
    · rcases List.mem_cons.mp ((h z).mpr (List.mem_cons_of_mem _ hz)) with e | e
      · subst e
        exact absurd (hm.1 z hz) (irr z)
      · exact e
/-- a rising list of places is told by its bits -/
theorem rising_told {l : List Nat} {b : Nat} (hb : b < 256) (hr : l.Pairwise (· < ·)) (h : ∀ i, i ∈ l ↔ b.testBit i = true) : l = told b :=
  rising_unique (fun x => Nat.lt_irrefl x) (fun _ _ => Nat.lt_asymm) hr (told_rising b) fun i => (h i).trans (mem_told hb).symm

/-! ### the least closed family with some lots -/
inductive Cl (D S : List Nat) (B : Nat → Prop) : Nat → Prop
  | zero : Cl D S B 0
  | base {x : Nat} : B x → Cl D S B x
  | lay {x d : Nat} : Cl D S B x → d ∈ D → Cl D S B (x ||| d)
  | off {x s : Nat} : Cl D S B x → s ∈ S → Cl D S B (lessB x s)
theorem Cl.mono {D S D' S' : List Nat} {B B' : Nat → Prop} (hD : ∀ d ∈ D, d ∈ D') (hS : ∀ s ∈ S, s ∈ S') (hB : ∀ x, B x → B' x) {x : Nat} (h : Cl D S B x) : Cl D' S' B' x := by
  induction h with
  | zero => exact .zero
  | base h => exact .base (hB _ h)
  | lay _ hd ih => exact .lay ih (hD _ hd)
  | off _ hs ih => exact .off ih (hS _ hs)
theorem Cl.lt {D S : List Nat} {B : Nat → Prop} {n : Nat} (hD : ∀ d ∈ D, d < 2 ^ n) (hB : ∀ x, B x → x < 2 ^ n) {x : Nat} (h : Cl D S B x) : x < 2 ^ n := by
  induction h with
  | zero => exact Nat.two_pow_pos n
  | base h => exact hB _ h
  | lay _ hd ih => exact Nat.or_lt_two_pow ih (hD _ hd)
  | off _ _ ih => exact lessB_lt ih
/-- what a worklist keeps: found and left -/
structure Work (D S : List Nat) (B : Nat → Prop) (n : Nat) (found left : List Nat) : Prop where
  nd : found.Nodup
  inF : ∀ x ∈ found, Cl D S B x
  inL : ∀ x ∈ left, Cl D S B x
  zero : 0 ∈ found ∨ 0 ∈ left
  base : ∀ x, B x → x ∈ found ∨ x ∈ left
  lay : ∀ x ∈ found, ∀ d ∈ D, (x ||| d) ∈ found ∨ (x ||| d) ∈ left
  off : ∀ x ∈ found, ∀ s ∈ S, lessB x s ∈ found ∨ lessB x s ∈ left
section
variable {D S : List Nat} {B : Nat → Prop} {n : Nat} {found left more : List Nat} {x : Nat}
theorem Work.start (h0 : 0 ∈ left) (hB : ∀ x, B x → x ∈ left) (hL : ∀ x ∈ left, x = 0 ∨ B x) : Work D S B n [] left where
  nd := List.nodup_nil
  inF := fun x h => absurd h List.not_mem_nil
  inL := fun x h => by
    rcases hL x h with e | e
    · subst e
      exact .zero
    · exact .base e
  zero := .inr h0
  base := fun x h => .inr (hB x h)
  lay := fun x h => absurd h List.not_mem_nil
  off := fun x h => absurd h List.not_mem_nil
/-- the last one left was found already -/
theorem Work.skip (w : Work D S B n found (left ++ [x])) (hx : x ∈ found) : Work D S B n found left where
  nd := w.nd
  inF := w.inF
  inL := fun y h => w.inL y (List.mem_append_left _ h)
  zero := w.zero.elim .inl fun h => (List.mem_append.mp h).elim .inr fun e => .inl (by rw [List.mem_singleton.mp e]; exact hx)
  base := fun y h => (w.base y h).elim .inl fun h => (List.mem_append.mp h).elim .inr fun e => .inl (by rw [List.mem_singleton.mp e]; exact hx)
  lay := fun y h d hd => (w.lay y h d hd).elim .inl fun h => (List.mem_append.mp h).elim .inr fun e => .inl (by rw [List.mem_singleton.mp e]; exact hx)
  off := fun y h s hs => (w.off y h s hs).elim .inl fun h => (List.mem_append.mp h).elim .inr fun e => .inl (by rw [List.mem_singleton.mp e]; exact hx)
/-- the last one left is new: its steps come in -/
theorem Work.take (w : Work D S B n found (left ++ [x])) (hx : x ∉ found) (h1 : ∀ y ∈ more, (∃ d ∈ D, y = x ||| d) ∨ ∃ s ∈ S, y = lessB x s)
    (h2 : ∀ d ∈ D, (x ||| d) ∈ found ++ [x] ∨ (x ||| d) ∈ more) (h3 : ∀ s ∈ S, lessB x s ∈ found ++ [x] ∨ lessB x s ∈ more) : Work D S B n (found ++ [x]) (left ++ more) := by
  have cx : Cl D S B x := w.inL x (List.mem_append_right _ (List.mem_singleton.mpr rfl))
  have mv : ∀ y : Nat, (y ∈ found ∨ y ∈ left ++ [x]) → (y ∈ found ++ [x] ∨ y ∈ left ++ more) := fun y h => by
    rcases h with h | h
    · exact .inl (List.mem_append_left _ h)
    · rcases List.mem_append.mp h with h | h
      · exact .inr (List.mem_append_left _ h)
      · exact .inl (List.mem_append_right _ h)
  have mm : ∀ y : Nat, (y ∈ found ++ [x] ∨ y ∈ more) → (y ∈ found ++ [x] ∨ y ∈ left ++ more) := fun y h => h.elim .inl fun h => .inr (List.mem_append_right _ h)
  refine ⟨?_, fun y h => ?_, fun y h => ?_, mv 0 w.zero, fun y h => mv y (w.base y h), fun y h d hd => ?_, fun y h s hs => ?_⟩
  · rw [List.nodup_append]
    refine ⟨w.nd, List.nodup_cons.mpr ⟨List.not_mem_nil, List.nodup_nil⟩, fun a ha b hb e => ?_⟩
    rw [List.mem_singleton] at hb
    subst hb
    subst e
    exact hx ha
  · rcases List.mem_append.mp h with h | h
    · exact w.inF y h
    · rw [List.mem_singleton.mp h]
      exact cx
  · rcases List.mem_append.mp h with h | h
    · exact w.inL y (List.mem_append_left _ h)
    · rcases h1 y h with ⟨d, hd, e⟩ | ⟨s, hs, e⟩
      · rw [e]
        exact .lay cx hd
      · rw [e]
        exact .off cx hs
  · rcases List.mem_append.mp h with h | h
    · exact mv _ (w.lay y h d hd)
    · rw [List.mem_singleton.mp h]
      exact mm _ (h2 d hd)
  · rcases List.mem_append.mp h with h | h
    · exact mv _ (w.off y h s hs)
    · rw [List.mem_singleton.mp h]
      exact mm _ (h3 s hs)
theorem Work.done (w : Work D S B n found []) (x : Nat) : x ∈ found ↔ Cl D S B x := by
  have no : ∀ {y : Nat}, (y ∈ found ∨ y ∈ ([] : List Nat)) → y ∈ found := fun h => h.elim id fun h => absurd h List.not_mem_nil
  refine ⟨w.inF x, fun h => ?_⟩
  induction h with
  | zero => exact no w.zero
  | base h => exact no (w.base _ h)
  | lay _ hd ih => exact no (w.lay _ ih _ hd)
  | off _ hs ih => exact no (w.off _ ih _ hs)
end
/-- a list of unlike numbers below m has at most m -/
theorem nodup_le : ∀ {m : Nat} {l : List Nat}, l.Nodup → (∀ x ∈ l, x < m) → l.length ≤ m
  | 0, [], _, _ => Nat.le_refl _
  | 0, x :: l, _, h => absurd (h x List.mem_cons_self) (Nat.not_lt_zero _)
  | m + 1, l, hn, h => by
    have ih := nodup_le (m := m) (l := l.erase m) (hn.erase m) fun x hx => by
      have q := hn.mem_erase_iff.mp hx
      have := h x q.2
      have := q.1
      omega
    rw [List.length_erase] at ih
    split at ih <;> omega
theorem Work.bound {D S : List Nat} {B : Nat → Prop} {n : Nat} {found left : List Nat} (w : Work D S B n found left) (hD : ∀ d ∈ D, d < 2 ^ n) (hB : ∀ x, B x → x < 2 ^ n) : found.length ≤ 2 ^ n :=
  nodup_le w.nd fun x hx => (w.inF x hx).lt hD hB

/-! ### from behind -/
/-- a and b are alike on the open places -/
def Alike (a b o : Nat) : Prop := a &&& o = b &&& o
theorem alike_iff {a b o : Nat} : Alike a b o ↔ ∀ i, o.testBit i = true → a.testBit i = b.testBit i := by
  constructor
  · intro h i hi
    have q := congrArg (fun x => Nat.testBit x i) h
    simp only [Nat.testBit_and, hi, Bool.and_true] at q
    exact q
  · intro h
    refine Nat.eq_of_testBit_eq fun i => ?_
    rw [Nat.testBit_and, Nat.testBit_and]
    cases e : o.testBit i with
    | true => rw [h i e]
    | false => rw [Bool.and_false, Bool.and_false]
theorem and_zero_iff {a b : Nat} : a &&& b = 0 ↔ ∀ i, ¬ (a.testBit i = true ∧ b.testBit i = true) := by
  constructor
  · intro h i hi
    have q := congrArg (fun x => Nat.testBit x i) h
    simp only [Nat.testBit_and, hi.1, hi.2, Nat.zero_testBit, Bool.and_self] at q
    cases q
  · intro h
    refine Nat.eq_of_testBit_eq fun i => ?_
    rw [Nat.testBit_and, Nat.zero_testBit]
    cases e : a.testBit i with
    | false => rfl
    | true =>
      cases e' : b.testBit i with
      | false => rfl
      | true => exact (h i ⟨e, e'⟩).elim
/-- a delivery kind that may be the last on some open place -/
def LayOk (bits o k : Nat) : Prop := k &&& o ≠ 0 ∧ lessB (k &&& o) bits = 0
def OffOk (bits o k : Nat) : Prop := k &&& o ≠ 0 ∧ (k &&& o) &&& bits = 0
theorem lessB_zero_iff {a b : Nat} : lessB a b = 0 ↔ ∀ i, a.testBit i = true → b.testBit i = true := by
  constructor
  · intro h i hi
    have q := congrArg (fun x => Nat.testBit x i) h
    simp only [testBit_lessB, hi, Nat.zero_testBit, Bool.true_and] at q
    cases e : b.testBit i with
    | true => rfl
    | false =>
      rw [e] at q
      cases q
  · intro h
    refine Nat.eq_of_testBit_eq fun i => ?_
    rw [testBit_lessB, Nat.zero_testBit]
    cases e : a.testBit i with
    | false => rfl
    | true => rw [h i e]; rfl
section
variable {D S : List Nat} {B : Nat → Prop} {bits o k : Nat}
/-- a way to a lot alike on fewer open places, led on by the kind -/
theorem lay_back (hd : k ∈ D) (h : LayOk bits o k) (q : ∃ x, Cl D S B x ∧ Alike x bits (lessB o k)) : ∃ x, Cl D S B x ∧ Alike x bits o := by
  obtain ⟨x, c, a⟩ := q
  have h2 := lessB_zero_iff.mp h.2
  refine ⟨x ||| k, .lay c hd, alike_iff.mpr fun i hi => ?_⟩
  rw [Nat.testBit_or]
  cases e : k.testBit i with
  | true =>
    rw [h2 i (by rw [Nat.testBit_and, e, hi]; rfl), Bool.or_true]
  | false =>
    rw [Bool.or_false]
    exact alike_iff.mp a i (by rw [testBit_lessB, hi, e]; rfl)
theorem off_back (hs : k ∈ S) (h : OffOk bits o k) (q : ∃ x, Cl D S B x ∧ Alike x bits (lessB o k)) : ∃ x, Cl D S B x ∧ Alike x bits o := by
  obtain ⟨x, c, a⟩ := q
  have h2 := and_zero_iff.mp h.2
  refine ⟨lessB x k, .off c hs, alike_iff.mpr fun i hi => ?_⟩
  rw [testBit_lessB]
  cases e : k.testBit i with
  | true =>
    have : bits.testBit i = false := by
      cases e2 : bits.testBit i with
      | false => rfl
      | true => exact (h2 i ⟨by rw [Nat.testBit_and, e, hi]; rfl, e2⟩).elim
    rw [this]
    simp
  | false =>
    rw [Bool.not_false, Bool.and_true]
    exact alike_iff.mp a i (by rw [testBit_lessB, hi, e]; rfl)
theorem end_back (h : bits &&& o = 0) : ∃ x, Cl D S B x ∧ Alike x bits o :=
  ⟨0, .zero, by unfold Alike; rw [Nat.zero_and, h]⟩
/-- where no kind can be the last one and some open place is in the lot, nothing flat is alike -/
theorem stuck (hB : ∀ x, ¬ B x) (hD : ∀ d ∈ D, ¬ LayOk bits o d) (hS : ∀ s ∈ S, ¬ OffOk bits o s) {x : Nat} (c : Cl D S B x) : Alike x bits o → bits &&& o = 0 := by
  induction c with
  | zero =>
    intro a
    unfold Alike at a
    rw [Nat.zero_and] at a
    exact a.symm
  | base h => exact (hB _ h).elim
  | @lay x d c hd ih =>
    intro a
    have a := alike_iff.mp a
    refine ih (alike_iff.mpr fun i hi => ?_)
    have z : d &&& o = 0 := by
      refine Decidable.byContradiction fun nz => hD d hd ⟨nz, lessB_zero_iff.mpr fun j hj => ?_⟩
      rw [Nat.testBit_and, Bool.and_eq_true] at hj
      rw [← a j hj.2, Nat.testBit_or, hj.1, Bool.or_true]
    have z2 : d.testBit i = false := by
      cases e : d.testBit i with
      | false => rfl
      | true => exact (and_zero_iff.mp z i ⟨e, hi⟩).elim
    rw [← a i hi, Nat.testBit_or, z2, Bool.or_false]
  | @off x s c hs ih =>
    intro a
    have a := alike_iff.mp a
    refine ih (alike_iff.mpr fun i hi => ?_)
    have z : s &&& o = 0 := by
      refine Decidable.byContradiction fun nz => hS s hs ⟨nz, and_zero_iff.mpr fun j hj => ?_⟩
      have h1 := hj.1
      rw [Nat.testBit_and, Bool.and_eq_true] at h1
      have h2 := a j h1.2
      rw [testBit_lessB, h1.1, Bool.not_true, Bool.and_false] at h2
      rw [← h2] at hj
      cases hj.2
    have z2 : s.testBit i = false := by
      cases e : s.testBit i with
      | false => rfl
      | true => exact (and_zero_iff.mp z i ⟨e, hi⟩).elim
    rw [← a i hi, testBit_lessB, z2, Bool.not_false, Bool.and_true]
theorem alike_full {a b n : Nat} (ha : a < 2 ^ n) (hb : b < 2 ^ n) (h : Alike a b (2 ^ n - 1)) : a = b := by
  unfold Alike at h
  rw [Nat.and_two_pow_sub_one_eq_mod, Nat.and_two_pow_sub_one_eq_mod, Nat.mod_eq_of_lt ha, Nat.mod_eq_of_lt hb] at h
  exact h
theorem lessB_le (o k : Nat) : lessB o k ≤ o := by
  have e : lessB o k = o &&& lessB o k := Nat.eq_of_testBit_eq fun i => by
    rw [Nat.testBit_and, testBit_lessB]
    cases o.testBit i <;> cases k.testBit i <;> rfl
  rw [e]
  exact Nat.and_le_left
theorem lessB_smaller (h : k &&& o ≠ 0) : lessB o k < o := by
  refine Nat.lt_of_le_of_ne (lessB_le o k) fun e => h ?_
  refine and_zero_iff.mpr fun i hi => ?_
  have q := congrArg (fun x => Nat.testBit x i) e
  simp only [testBit_lessB, hi.1, hi.2] at q
  cases q
end
end K22
/-! Rules that the layer lacks: set(list of ints), sorted(list of lists of ints), repr of nested lists, enumerate(tuple), calls by keywords alone, a walk over a list or a tuple. -/
namespace K22
open PySem PySem.Spec PyProof.Rows L2

/-! ### repr of a truth value, of nested data -/
section
variable {X : Cx}
theorem cr_reprB : CallR X (.builtin "repr") (fun xs H Q => ∃ b, xs = [.bl b] ∧ Q (.str (if b then "True" else "False")) H) := by
  intro pins s σ H xs us Q I r h
  obtain ⟨b, rfl, q⟩ := h
  obtain ⟨u, rfl, ru⟩ := vals1 r
  cases (show u = Value.bool b from ru)
  exact PySem.P.repr_of_bool ⟨.str _, H, I.tok _, ⟨_, rfl⟩, q⟩
/-- repr(x), x data of any depth without dicts; no repr is under way -/
def rReprD (K : PySem.W.Frag) : List V → Hp → VK → Prop := fun xs H Q => ∃ (a : Addr) (d : PyData), xs = [.ref a] ∧ Dp K H (.ref a) d ∧ d.showable = true ∧ d.hasDict = false ∧ d.depth ≤ 60 ∧ d.shown.length ≤ sizeLine ∧ Q (.str d.shown) H
theorem cr_reprD (hg : X.A.guards = some []) (hu : X.A.units + 64 < cLine) : CallR X (.builtin "repr") (rReprD X.K) := by
  intro pins s σ H xs us Q I r h
  obtain ⟨a, d, rfl, hd, h1, h2, h3, h4, q⟩ := h
  rw [Vals.ref1 r]
  obtain ⟨as, hr⟩ := Dp.reads I d (V.ref a) (Value.ref a) hd rfl
  refine repr_of_reads' hr h1 (fun z => absurd (h2.symm.trans z) Bool.false_ne_true) hg (by omega) (fun _ _ e => e) (fun h' u tk hk => ?_) h4
  exact ⟨.str _, H, I.kept (t' := tk) hk, ⟨_, rfl⟩, q⟩
end

/-! ### a list of ints as data -/
theorem dpInts {K : PySem.W.Frag} {H : Hp} : ∀ ns : List Int, DpAll K H (ns.map V.int) (ns.map PyData.int)
  | [] => .nil
  | n :: ns => .cons (.int n) (dpInts ns)
/-- a list (a lot) of ints at a -/
theorem dpRow {K : PySem.W.Frag} {H : Hp} {a : Addr} {ns : List Int} (h : SqL K H a (ns.map V.int)) : Dp K H (.ref a) (.list (ns.map PyData.int)) := .lst h (dpInts ns)
theorem dpRows {K : PySem.W.Frag} {H : Hp} : ∀ bs : List (Addr × List Int), (∀ b ∈ bs, SqL K H b.1 (b.2.map V.int)) → DpAll K H (bs.map fun b => V.ref b.1) (bs.map fun b => PyData.list (b.2.map .int))
  | [], _ => .nil
  | b :: bs, h => .cons (dpRow (h b List.mem_cons_self)) (dpRows bs fun c hc => h c (List.mem_cons_of_mem _ hc))

/-! ### sorted of a list of lists of ints, any number of them -/
theorem each_self {α β : Type} {R : α → β → Prop} (f : β → α) : ∀ {l : List β}, (∀ b ∈ l, R (f b) b) → PySem.W.EachIs R (l.map f) l
  | [], _ => .nil
  | b :: l, h => .cons (h b List.mem_cons_self) (each_self f fun c hc => h c (List.mem_cons_of_mem _ hc))
theorem each_refs : ∀ {out : List Value} {ys : List (Addr × List Int)}, PySem.W.EachIs (fun v (b : Addr × List Int) => v = Value.ref b.1) out ys → Vals (ys.map fun b => V.ref b.1) out
  | _, _, .nil => .nil
  | _, _, .cons h t => .cons h (each_refs t)
theorem vals_refs : ∀ {bs : List (Addr × List Int)} {us : List Value}, Vals (bs.map fun b => V.ref b.1) us → us = bs.map fun b => Value.ref b.1
  | [], _, r => by
    cases r
    rfl
  | b :: bs, _, r => by
    cases r with
    | cons h t =>
      cases h
      rw [vals_refs t]
      rfl
def rSortL (K : PySem.W.Frag) : List V → Hp → VK → Prop := fun vs H Q => ∃ (a : Addr) (bs : List (Addr × List Int)), vs = [V.ref a] ∧ SqL K H a (bs.map fun b => V.ref b.1) ∧ (∀ b ∈ bs, SqL K H b.1 (b.2.map V.int)) ∧
  ∀ (ys : List (Addr × List Int)) (p : Addr), ys.Perm bs → ys.Pairwise (fun x y => x.2 ≤ y.2) → H p = none → Q (.ref p) (upd H p (.lst (ys.map fun b => V.ref b.1)))
theorem rows_sorted (bs : List (Addr × List Int)) : (bs.mergeSort (PySem.W.dataLe false fun b : Addr × List Int => PyData.list (b.2.map .int))).Pairwise (fun x y => x.2 ≤ y.2) := by
  rw [PySem.W.dataLe_rows]
  have h := List.pairwise_mergeSort (le := fun p q : Addr × List Int => decide (p.2 ≤ q.2)) (fun a b c h1 h2 => decide_eq_true (List.le_trans (of_decide_eq_true h1) (of_decide_eq_true h2)))
    (fun a b => by
      rcases List.le_total a.2 b.2 with h | h
      · rw [decide_eq_true h]
        rfl
      · rw [decide_eq_true h, Bool.or_true]) bs
  exact h.imp fun h => of_decide_eq_true h
theorem alikeRow (b c : Addr × List Int) : PySem.W.alike (PyData.list (b.2.map .int)) (PyData.list (c.2.map .int)) = true := by
  have h := PySem.W.alike_ints b.2 c.2
  simpa [PySem.W.alike] using h
section
variable {X : Cx}
theorem cr_sortL (hu : X.A.units + 64 < cLine) : CallR X (.builtin "sorted") (rSortL X.K) := by
  intro pins s σ H vs us Q I r h
  obtain ⟨a, bs, rfl, hs, hb, q⟩ := h
  obtain ⟨its, rv, hl, hz⟩ := I.list hs
  rw [Vals.ref1 r]
  have ei := vals_refs rv
  subst ei
  have hlen : bs.length ≤ sizeLine := by simpa using hz
  have rd : ∀ b ∈ bs, ∃ as, Reads s.heap (Value.ref b.1) (PyData.list (b.2.map .int)) as := fun b m => Dp.reads I _ (V.ref b.1) (Value.ref b.1) (dpRow (hb b m)) rfl
  refine PySem.W.sorted_data (β := Addr × List Int) (R := fun v b => v = Value.ref b.1) (enc := fun b => PyData.list (b.2.map .int)) (bs := bs) hl.isList (each_self _ fun _ _ => rfl) (each_self _ rd)
    (PySem.W.AllAlike.of alikeRow) (PySem.W.Sortable.others fun b => ⟨(fun z => nomatch z), (fun _ z => nomatch z)⟩) hlen (fun b _ => ?_) fun out ho e => ?_
  · have := PySem.W.depth_ints b.2
    simp only [PyData.depth]
    omega
  · obtain ⟨ep, he⟩ := PyProof.Rows.sortedAll_at s.heap (bs.map fun b => Value.ref b.1) out.toArray
    generalize hys : bs.mergeSort (PySem.W.dataLe false fun b : Addr × List Int => PyData.list (b.2.map .int)) = ys at e
    have pm : ys.Perm bs := by
      rw [← hys]
      exact List.mergeSort_perm _ _
    have st : ys.Pairwise (fun x y => x.2 ≤ y.2) := by
      rw [← hys]
      exact rows_sorted bs
    have hl2 : (ys.map fun b => V.ref b.1).length ≤ sizeLine := by
      rw [List.length_map, pm.length_eq]
      exact hlen
    exact ⟨.ref _, upd H (s.heap.objs.size + 1) (.lst (ys.map fun b => V.ref b.1)), I.laid (t' := s.toks) (fun _ _ => PyProof.Rows.sortedAll_old) (Nat.le_succ _) ⟨hl2, out, ep, each_refs e, he⟩, rfl, q _ _ pm st (I.hok.fresh (Nat.le_succ _))⟩
end

/-! ### a walk over a list or a tuple -/
/-- a list or a tuple of xs at a -/
def Sq (K : PySem.W.Frag) (H : Hp) (a : Addr) (xs : List V) : Prop := SqL K H a xs ∨ SqT K H a xs
theorem _root_.L2.Same.sqT {K : PySem.W.Frag} {H H' : Hp} {a : Addr} {xs : List V} (e : Same H H') (h : SqT K H a xs) : SqT K H' a xs := by
  rcases h with (h | ⟨o, h⟩) | h
  · exact .inl (.inl (e _ _ h))
  · exact .inl (.inr ⟨o, e _ _ h⟩)
  · exact .inr h
theorem _root_.L2.Same.sq {K : PySem.W.Frag} {H H' : Hp} {a : Addr} {xs : List V} (e : Same H H') (h : Sq K H a xs) : Sq K H' a xs := h.elim (fun h => .inl (e.seq h)) fun h => .inr (e.sqT h)
end K22
/-! set(a list of ints): the layer has it of a tuple alone. -/
namespace K22
open PySem PySem.Spec PyProof.Rows L2
section
variable {P : Program} {w : World} {A : Around} {E : Value → Shared → Prop} {s : Shared}
/-- the object that set() lays ahead of filling it -/
abbrev freshSet (w : World) : Obj := { cls := .type "set", dict := none, data := .set #[] 0 (.fresh 0 0 (!w.params.followText "set-order")) }
theorem set_of_list {at_ : Addr} {xs : Array Value} (ks : List Int) {Q : Value → Shared → Prop} (calm : A.handled = none) (il : s.heap.IsList at_ xs) (ii : IntsAre xs.toList ks) (few : ks.length + 1 < scanBound)
    (k : ∀ (g : Heap) (t c : Nat), SetR w g s.heap.objs.size (fun j => decide (j ∈ ks)) c → c ≤ ks.length → (∀ b o, s.heap.get? b = some o → g.get? b = some o) → Q (.ref s.heap.objs.size) { s with heap := g, toks := t }) :
    wpAny (model P w) A (call (.type "set") [.ref at_]) Q E s := by
  have len : xs.size = ks.length := by simpa using IntsAre.length ii
  obtain ⟨c, tl, hmro⟩ := F.called_set.mro
  have made := F.called_set.made
  have sub := F.called_set.sub
  refine wpAny_call (codeAny_of_tree ?_)
  show wpAny _ _ (callAny (.type "set") _) _ _ _
  refine wpAny_pure ⟨Code.quiet_builtin _ (by decide +kernel), codeAny_builtin F.entry_type_call ?_⟩
  rw [Around.under_plain (weight_type_call_type "set" [.ref at_] []) rfl]
  have n1 := F.called_set.notType
  have n2 := F.called_set.canCreate
  have n3 := F.typeCall_set_1 (.ref at_)
  repeat (any_goals (first | assumption | wp_step))
  refine codeAny_mono (code_set_led1 (.ref at_) (E := E) (Q₁ := fun x s1 => x = .ref s.heap.objs.size ∧ s1 = { s with heap := s.heap.push (freshSet w) }) ⟨rfl, rfl⟩) fun r s1 hr => ?_
  match r, hr with
  | .error _, hr => exact hr
  | .ok .next, hr => exact hr.elim
  | .ok .brk, hr => exact hr.elim
  | .ok .cont, hr => exact hr.elim
  | .ok (.ret x), hr =>
    obtain ⟨rfl, rfl⟩ := hr
    have new : (s.heap.push (freshSet w)).get? s.heap.objs.size = some (freshSet w) := Heap.get?_push_size _ rfl
    have typ : Shared.TypeIs { s with heap := s.heap.push (freshSet w) } (.ref s.heap.objs.size) "set" := ⟨_, new, rfl⟩
    have il2 := F.called_set.init.lookup
    have ib := F.called_set.init.bind (.ref s.heap.objs.size)
    repeat (any_goals (first | assumption | wp_step))
    refine codeAny_mono (codeAny_call_builtin (R := wants (fun r s2 => r = .none ∧ ∃ g t c, s2 = { s with heap := g, toks := t } ∧ SetR w g s.heap.objs.size (fun j => decide (j ∈ ks)) c ∧ c ≤ ks.length ∧
      (∀ b o, s.heap.get? b = some o → g.get? b = some o)) E) F.called_set.init.plain F.entry_set_init (check_set_init_1 typ ?_)) fun r2 s2 hr2 => ?_
    · obtain ⟨⟨cl, dc, dt, sl⟩, ho, hc, n, hd⟩ := il
      simp only at hc hd
      subst hc
      subst hd
      have ho2 : (s.heap.push (freshSet w)).get? at_ = some { cls := .type "list", dict := dc, data := .seq xs n, slots := sl } := Heap.get?_push_of_some _ ho
      have h1 := F.sub_list_set
      have h2 := F.sub_list_frozenset
      have h3 : (Value.type "list" == Value.type "dict") = false := by decide
      have il3 : (s.heap.push (freshSet w)).IsList at_ xs := ⟨_, ho2, rfl, n, rfl⟩
      unfold Builtin.«set.__init__» noKeywords Builtin.Frozenset.updateFrom
      generalize hI : pyIter = iterS
      wp_walk
      subst hI
      refine wpAny_pyIter_list il3 (wpAny_bind (wpAny_runValue ?_))
      have lt : at_ < s.heap.objs.size := Heap.lt_size ho
      have sz : (s.heap.push (freshSet w)).objs.size = s.heap.objs.size + 1 := Heap.size_push ..
      have ne : at_ ≠ (s.heap.push (freshSet w)).objs.size := by
        rw [sz]
        exact Nat.ne_of_lt (Nat.lt_succ_of_lt lt)
      have out : s.heap.objs.size ∉ [(s.heap.push (freshSet w)).objs.size, at_] := by
        rw [sz]
        simp only [List.mem_cons, List.not_mem_nil, or_false, not_or]
        exact ⟨Nat.ne_of_lt (Nat.lt_succ_self _), Nat.ne_of_gt lt⟩
      have vals : ∀ (i : Nat) (v : Value), xs[i]? = some v → ∃ z t, ks[i]? = some z ∧ v = .int z t := fun i v hv => by
        have hi : i < ks.length := by
          rw [← len]
          exact (Array.getElem?_eq_some_iff.mp hv).1
        obtain ⟨t, e⟩ := PyProof.Rows.IntsAre.int_at ii i v (by rw [Array.getElem?_toList]; exact hv)
        refine ⟨ks[i], t, List.getElem?_eq_getElem hi, ?_⟩
        rw [e, List.getD_eq_getElem?_getD, List.getElem?_eq_getElem hi]
        rfl
      refine set_update_ints ((Walks.list (by simp [calm]) _ at_ ne xs).toS) s.heap.objs.size out ks len few vals (xs.size - 0) 0 _ (by omega) (Nat.zero_le _) ⟨⟨_, Heap.get?_push_size _ rfl, rfl, rfl⟩, il3.push _⟩
        ⟨0, Nat.le_refl 0, setR_new_at (Heap.get?_push_of_some _ new)⟩ fun s3 c3 mv le R3 => ?_
      obtain ⟨g, q2, d2, t, o2⟩ := s3
      obtain rfl : q2 = s.gens := mv.gens
      obtain rfl : d2 = s.drawn := mv.drawn
      obtain rfl : o2 = s.os := mv.os
      show wpAny _ _ _ _ _ _
      refine wpAny_pure ?_
      show wpAny _ _ (ret Value.none) _ _ _
      refine wpAny_pure ⟨rfl, g, t, c3, rfl, R3, by rw [← len]; exact le, fun b o e => ?_⟩
      have b1 : b ≠ s.heap.objs.size := Nat.ne_of_lt (Heap.lt_size e)
      have b2 : b ≠ (s.heap.push (freshSet w)).objs.size := by
        rw [sz]
        exact Nat.ne_of_lt (Nat.lt_succ_of_lt (Heap.lt_size e))
      have b3 : b ∉ [s.heap.objs.size, (s.heap.push (freshSet w)).objs.size] := fun z => (List.mem_cons.mp z).elim b1 fun z => b2 (List.mem_singleton.mp z)
      exact mv.heap b o b3 (Heap.get?_push_of_some _ (Heap.get?_push_of_some _ e))
    · match r2, hr2 with
      | .error _, hr2 => exact hr2
      | .ok .next, hr2 => exact hr2.elim
      | .ok .brk, hr2 => exact hr2.elim
      | .ok .cont, hr2 => exact hr2.elim
      | .ok (.ret y), hr2 =>
        obtain ⟨rfl, g, t, c3, rfl, R3, le, kp⟩ := hr2
        repeat (any_goals (first | assumption | wp_step))
        exact k _ _ _ R3 le kp
end
/-- set(xs), a list or a tuple of ints -/
def rSetI (K : PySem.W.Frag) (w : World) : List V → Hp → VK → Prop := fun vs H Q => ∃ (a : Addr) (ns : List Int), vs = [V.ref a] ∧ Sq K H a (ns.map V.int) ∧ ns.length ≤ 1000 ∧
  ∀ (p : Addr) (c : Nat), H p = none → c ≤ ns.length → Q (.ref p) (upd H p (SetO w p (fun j => decide (j ∈ ns)) c))
section
variable {X : Cx}
theorem cr_setI (hc : X.calm = true) : CallR X (.type "set") (rSetI X.K X.w) := by
  intro pins s σ H vs us Q I r h
  obtain ⟨a, ns, rfl, hq, hl, q⟩ := h
  rw [Vals.ref1 r]
  have few : ns.length + 1 < scanBound := by
    unfold scanBound
    omega
  have fin : ∀ (g : Heap) (t c : Nat), SetR X.w g s.heap.objs.size (fun j => decide (j ∈ ns)) c → c ≤ ns.length → (∀ b o, s.heap.get? b = some o → g.get? b = some o) → EP X pins σ Q (.ref s.heap.objs.size) { s with heap := g, toks := t } :=
    fun g t c R le kp => ⟨.ref s.heap.objs.size, _, I.laid (t' := t) kp (Nat.le_refl _) (setO_new R), rfl, q _ c (I.hok.fresh (Nat.le_refl _)) le⟩
  rcases hq with hq | hq
  · obtain ⟨its, rv, hp, _⟩ := I.list hq
    exact set_of_list ns (I.ok.hd hc) hp.isList (by simpa using rv.ints) few fin
  · obtain ⟨its, rv, hp, _⟩ := I.tuple hq
    exact call_set_tupI ns (I.ok.hd hc) hp (by simpa using rv.ints) few fin
end
end K22
/-! enumerate(tuple); f(k = v, ..) with keywords alone; a def that asks for no repr under way; the law's end for such a def. -/
namespace K22
open PySem PySem.Spec PyProof.Rows L2

/-! ### for x in xs, a list or a tuple -/
/-- what is walked at a, whichever it is -/
def iSeq (K : PySem.W.Frag) (tl : TE) : TI := fun σ H R => tl σ H fun x H1 => ∃ a, x = .ref a ∧ ((∃ xs, SqL K H1 a xs) ∧ R (Itl K a) H1 ∨ (∃ xs, SqT K H1 a xs) ∧ R (Itt K a) H1)
section
variable {X : Cx}
theorem pi_seq {tg l : Expr} {tl : TE} (h : PE X l tl) : PI X tg l (iSeq X.K tl) := by
  refine ⟨fun pins s σ H R I hw => thn (h.run pins s σ H _ I hw) fun v s1 ⟨x, H1, I1, r1, q1⟩ => ?_⟩
  obtain ⟨a, rfl, q1⟩ := q1
  cases r1
  have fp : ∀ b ∈ [s1.heap.objs.size], FpOk X pins H1 b := fun b hb => by
    rw [List.mem_singleton.mp hb]
    exact I1.fpOk (Nat.le_refl _) (I1.hok.fresh (Nat.le_refl _))
  have kp : ∀ (it : Obj), Inv X pins σ H1 { s1 with heap := s1.heap.push it } := fun it => I1.kept (t' := s1.toks) fun b o e => Heap.get?_push_of_some _ e
  rcases q1 with ⟨⟨xs, hq⟩, q⟩ | ⟨⟨xs, hq⟩, q⟩
  · obtain ⟨its, _, pl, _⟩ := I1.list hq
    exact wpAny_pyIter_list pl.isList ⟨_, [s1.heap.objs.size], _, _, H1, rfl, kp _, turn_list a _, ⟨_, Heap.get?_push_size _ rfl, rfl, rfl⟩, fp, q⟩
  · obtain ⟨its, _, pl, _⟩ := I1.tuple hq
    exact wpAny_pyIter_tuple (show s1.heap.IsTuple a its.toArray from pl) ⟨_, [s1.heap.objs.size], _, _, H1, rfl, kp _, turn_tuple a _, ⟨_, Heap.get?_push_size _ rfl, rfl, rfl⟩, fp, q⟩
end
/-- a for over it: all that was tracked stays; Pv by the turn, the slots, the heap -/
theorem for_seq {K : PySem.W.Frag} {a : Addr} {xs : List V} {g : TG} {tb : TS} {D : Ends} {σ : L2.St} {H : Hp} (hq : Sq K H a xs) (Pv : Nat → L2.St → Hp → Prop) (h0 : Pv 0 σ H) (hS : ∀ i σ H', Pv i σ H' → Same H H')
    (hs : ∀ i x σ H', xs[i]? = some x → Pv i σ H' → g x σ H' fun σ2 H2 => tb { D with nx := Pv (i + 1), ct := Pv (i + 1), bk := D.nx } σ2 H2) (hd : ∀ σ H', Pv xs.length σ H' → D.nx σ H') :
    let G := fun (J : It) (H1 : Hp) => ∃ W : Nat → Nat → L2.St → Hp → Prop, (∃ m, W 0 m σ H1) ∧ ∀ i m σ H, W i m σ H →
      (J.stop i H ∧ D.nx σ H) ∨ (J.go i H ∧ ∃ N : L2.St → Hp → Prop, (∀ σ' H', N σ' H' → ∃ m', m' < m ∧ W (i + 1) m' σ' H') ∧ ∀ x H', J.yld i H x H' → g x σ H' fun σ2 H2 => tb { D with nx := N, ct := N, bk := D.nx } σ2 H2)
    ((∃ xs, SqL K H a xs) ∧ G (Itl K a) H ∨ (∃ xs, SqT K H a xs) ∧ G (Itt K a) H) := by
  intro G
  rcases hq with h | h
  · exact .inl ⟨⟨xs, h⟩, for_list (K := K) (a := a) (xs := xs) Pv h0 (fun i σ H' _ p => (hS i σ H' p).seq h) hs hd⟩
  · exact .inr ⟨⟨xs, h⟩, for_tup (K := K) (a := a) (xs := xs) Pv h0 (fun i σ H' _ p => (hS i σ H' p).sqT h) hs hd⟩
/-- a comprehension over it -/
theorem lc_seq {K : PySem.W.Frag} {a : Addr} {xs : List V} {g : TG} {tt : TT} {te : TE} {vs : List Nat} {σ : L2.St} {H : Hp} {Q : VK} (hq : Sq K H a xs) (Pv : Addr → Nat → Hp → Prop) (h0 : ∀ D, H D = none → Pv D 0 (upd H D (.lst [])))
    (hS : ∀ D i H', H D = none → Pv D i H' → Same H H')
    (hs : ∀ D i x H', H D = none → xs[i]? = some x → Pv D i H' → g x (wipe σ vs) H' fun σ2 H2 => wipe σ2 vs = wipe σ vs ∧ tt σ2 H2 fun b H3 =>
      if b = true then te σ2 H3 fun y H4 => ∃ acc, H4 D = some (.lst acc) ∧ acc.length < sizeLine ∧ Pv D (i + 1) (upd H4 D (.lst (acc ++ [y]))) else Pv D (i + 1) H3) (hd : ∀ D H', H D = none → Pv D xs.length H' → Q (.ref D) H') :
    let G := fun (J : It) (H1 : Hp) => ∀ D, H1 D = none → ∃ W : Nat → Nat → Hp → Prop, (∃ m, W 0 m (upd H1 D (.lst []))) ∧ ∀ i m H, W i m H →
      (J.stop i H ∧ Q (.ref D) H) ∨ (J.go i H ∧ ∃ Nx : Hp → Prop, (∀ H', Nx H' → ∃ m', m' < m ∧ W (i + 1) m' H') ∧ ∀ x H', J.yld i H x H' → g x (wipe σ vs) H' fun σ2 H2 => wipe σ2 vs = wipe σ vs ∧ tt σ2 H2 fun b H3 =>
        if b = true then te σ2 H3 fun y H4 => ∃ acc, H4 D = some (.lst acc) ∧ acc.length < sizeLine ∧ Nx (upd H4 D (.lst (acc ++ [y]))) else Nx H3)
    ((∃ xs, SqL K H a xs) ∧ G (Itl K a) H ∨ (∃ xs, SqT K H a xs) ∧ G (Itt K a) H) := by
  intro G
  rcases hq with h | h
  · exact .inl ⟨⟨xs, h⟩, fun D hD => lc_list (K := K) (a := a) (xs := xs) (Qd := fun H' => Q (.ref D) H') (Pv D) (h0 D hD) (fun i H' _ p => (hS D i H' hD p).seq h) (fun i x H' e p => hs D i x H' hD e p) fun H' p => hd D H' hD p⟩
  · exact .inr ⟨⟨xs, h⟩, fun D hD => lc_tup (K := K) (a := a) (xs := xs) (Qd := fun H' => Q (.ref D) H') (Pv D) (h0 D hD) (fun i H' _ p => (hS D i H' hD p).sqT h) (fun i x H' e p => hs D i x H' hD e p) fun H' p => hd D H' hD p⟩

/-! ### enumerate of a tuple -/
section
variable {prog : Program} {w : World} {A : Around} {E : Value → Shared → Prop} {s : Shared}
theorem meets_enumT (t : Addr) (items : Array Value) :
    Meets (Builtin.«enumerate.__new__» ⟨[.type "enumerate", .ref t], []⟩) (fun _ R s => s.heap.IsTuple t items ∧
      R (.ok (.ret (.ref (s.heap.push { cls := .type "tuple_iterator", data := .fields #[.ref t, .int 0 0] }).objs.size)))
        { s with heap := (s.heap.push { cls := .type "tuple_iterator", data := .fields #[.ref t, .int 0 0] }).push { cls := .type "enumerate", data := .fields #[.none, .bool false, .ref s.heap.objs.size, rawInt 0, .none, .none] } }) :=
  .of_wp fun prog w A R s h => by
    obtain ⟨hp, g, d, tk, os⟩ := s
    obtain ⟨ht, h⟩ := h
    have hsub := sub_enumerate
    have q1 : ∀ {A' : Around} {E Q : Value → Shared → Prop}, Q (.ref hp.objs.size) ⟨hp.push { cls := .type "tuple_iterator", data := .fields #[.ref t, .int 0 0] }, g, d, tk, os⟩ → wpAny (model prog w) A' (pyIter (.ref t)) Q E ⟨hp, g, d, tk, os⟩ :=
      fun q => wpAny_pyIter_tuple (s := ⟨hp, g, d, tk, os⟩) ht q
    wp_walk using q1
    refine wpAny_stack_any fun st => wpAny_pure ?_
    split
    · rename_i c _ _ _ _ _
      cases (c == Value.type "enumerate") <;> (wp_walk using q1; exact ⟨_, rfl, h⟩)
    · wp_walk using q1
      exact ⟨_, rfl, h⟩
theorem call_enumT {t : Addr} {items : Array Value} {Q : Value → Shared → Prop} (ht : s.heap.IsTuple t items)
    (h : ∀ g, IsEnum g (s.heap.objs.size + 1) s.heap.objs.size 0 .none → g.IsTupleIter s.heap.objs.size t 0 → g.objs.size = s.heap.objs.size + 2 → (∀ b o, s.heap.get? b = some o → g.get? b = some o) → Q (.ref (s.heap.objs.size + 1)) { s with heap := g }) :
    wpAny (model prog w) A (call (.type "enumerate") [.ref t]) Q E s := by
  refine callType_new F.called_enumerate (by decide) (F.typeCall_enumerate_1 _) (F.newCall_enumerate_1 _) (fun obj => F.args_object_init_2 obj _) F.entry_enumerate_new (meets_enumT t items) ⟨ht, ?_⟩
  have sz : (s.heap.push { cls := .type "tuple_iterator", data := .fields #[.ref t, .int 0 0] }).objs.size = s.heap.objs.size + 1 := Heap.size_push ..
  have he : IsEnum ((s.heap.push { cls := .type "tuple_iterator", data := .fields #[.ref t, .int 0 0] }).push { cls := .type "enumerate", data := .fields #[.none, .bool false, .ref s.heap.objs.size, rawInt 0, .none, .none] }) (s.heap.objs.size + 1) s.heap.objs.size 0 .none := by
    have q := Heap.get?_push_size (s.heap.push { cls := .type "tuple_iterator", data := .fields #[.ref t, .int 0 0] }) (o := { cls := .type "enumerate", data := .fields #[.none, .bool false, .ref s.heap.objs.size, rawInt 0, .none, .none] }) rfl
    rw [sz] at q
    exact q
  show _ ∧ _
  rw [sz]
  exact ⟨⟨_, he, rfl⟩, h _ he ⟨_, Heap.get?_push_of_some _ (Heap.get?_push_size _ rfl), rfl, rfl⟩ (by rw [Heap.size_push, sz]) fun b o x => Heap.get?_push_of_some _ (Heap.get?_push_of_some _ x)⟩
end
/-- the tuple at a, each item in a new pair with its place -/
def IteT (K : PySem.W.Frag) (a : Addr) : It where
  go := fun i H => ∃ (xs : List V) (x : V), SqT K H a xs ∧ xs[i]? = some x
  yld := fun i H v H' => ∃ T x, v = .ref T ∧ H T = none ∧ H' = upd H T (.tup [.int (i : Nat), x]) ∧ ∀ xs, SqT K H a xs → xs[i]? = some x
  stop := fun i H => ∃ xs : List V, SqT K H a xs ∧ xs.length = i
theorem turn_enumT {P : Program} {w : World} {K : PySem.W.Frag} {elts : List Expr} {kk : Nat} {tpos : Pos} (a e it : Addr) (hne : e ≠ it) (hat : a ≠ it) (hea : e ≠ a) :
    Turn P w K (.Tuple elts kk tpos) (IteT K a) [e, it] e (fun i h => (∃ old, IsEnum h e it (0 + ((i : Nat) : Int)) old) ∧ h.IsTupleIter it a i) where
  mem := List.mem_cons_self
  obj := fun i h st b hb => by
    obtain ⟨⟨old, he⟩, ⟨o, ho, _, hd⟩⟩ := st
    rcases List.mem_cons.mp hb with z | z
    · rw [z]
      exact ⟨_, he, fun v q => nomatch q⟩
    · rw [List.mem_singleton.mp z]
      exact ⟨o, ho, fun v q => by rw [hd] at q; cases q⟩
  keep := fun i h h' st k => ⟨let ⟨old, he⟩ := st.1; ⟨old, k e List.mem_cons_self _ he⟩, st.2.at fun o q => k it (by simp) o q⟩
  item := by
    intro X hP hw hK hc i pins s σ H E I hf st hg
    subst hP hw hK
    obtain ⟨⟨old, he⟩, hit⟩ := st
    obtain ⟨xs, x, hq, hx⟩ := hg
    obtain ⟨its, rv, pt, _⟩ := I.tuple hq
    obtain ⟨u, hu, ru⟩ := rv.get hx
    have lt : i < its.toArray.size := by
      obtain ⟨q, _⟩ := List.getElem?_eq_some_iff.mp hu
      simpa using q
    have le : e < s.heap.objs.size := Heap.lt_size he
    have li : it < s.heap.objs.size := by
      obtain ⟨_, q, _⟩ := hit
      exact Heap.lt_size q
    have no : e ∉ [it, a] := fun z => (List.mem_cons.mp z).elim hne fun z => hea (List.mem_singleton.mp z)
    refine wpAny_pyNext_enum_itemC (Draws.tuple (A := X.A.in1) (I.ok.hd hc) it a hat its.toArray) he ⟨hit, pt⟩ lt hne no fun y h' tk hy ho st' hT hsz hk => ?_
    have ey : y = u := by
      have q : some y = some u := by rw [← hy, ← hu]; simp
      exact Option.some.inj q
    subst ey
    refine ⟨_, rfl, wpAny_letOwnedTupleGo_enum (s := { s with heap := h', toks := tk + 1 }) ho fun h2 he2 sb => ?_⟩
    have hT2 : h2.get? s.heap.objs.size = some { cls := .type "tuple", data := .seq #[.int (0 + ((i : Nat) : Int)) tk, y] } := (sb.2 _ (Nat.ne_of_gt le)).trans hT
    have new : ObjOk X.prog X.w (upd H s.heap.objs.size (.tup [.int (i : Nat), x])) h2 s.heap.objs.size (.tup [.int (i : Nat), x]) :=
      ⟨by show 2 ≤ sizeLine; decide, [.int (0 + ((i : Nat) : Int)) tk, y], .cons ⟨tk, by rw [Int.zero_add]⟩ (.cons ru .nil), ⟨_, hT2, rfl, _, rfl⟩⟩
    have I1 : Inv X pins σ (upd H s.heap.objs.size (.tup [.int (i : Nat), x])) { s with heap := h2, toks := tk + 1 } :=
      I.turnedNew (ch := [e, it]) (fun b ob hb q => (sb.2 b (fun z => hb (by simp [z]))).trans (hk b ob (fun z => hb (by simp [z])) (fun z => hb (by simp [z])) q)) hf (Nat.le_refl _) new
    refine ⟨.ref s.heap.objs.size, _, I1, rfl, ⟨_, x, rfl, I.hok.fresh (Nat.le_refl _), rfl, fun ys hy => by rw [I.tuple_inj hy hq]; exact hx⟩, ⟨⟨y, ?_⟩, st'.1.at fun o q => (sb.2 it (Ne.symm hne)).trans q⟩, fun b hb => ?_⟩
    · have e1 : (0 : Int) + ((i + 1 : Nat) : Int) = 0 + (i : Int) + 1 := by omega
      rw [e1]
      exact he2
    · have lb : b < s.heap.objs.size := by
        rcases List.mem_cons.mp hb with z | z
        · rw [z]
          exact le
        · rw [List.mem_singleton.mp z]
          exact li
      rw [upd_ne (Nat.ne_of_lt lb)]
      exact (hf b hb).1
  done := by
    intro X hP hw hK hc i pins s σ H E I hf st hg
    subst hP hw hK
    obtain ⟨⟨old, he⟩, hit⟩ := st
    obtain ⟨xs, hq, hx⟩ := hg
    obtain ⟨its, rv, pt, _⟩ := I.tuple hq
    obtain ⟨f0, f1, f2, f3, f4, f5⟩ := hf it (by simp)
    have en : its.toArray.size = i := by
      rw [List.size_toArray, ← rv.length, hx]
    have st2 : Heap.IsTupleIter s.heap it a its.toArray.size ∧ s.heap.IsTuple a its.toArray := ⟨by rw [en]; exact hit, pt⟩
    exact wpAny_pyNext_enum_endD (Draws.tuple (A := X.A.in1) (I.ok.hd hc) it a hat its.toArray) he st2 fun h' eb => ⟨rfl, I.turned (t' := s.toks) (fun b o hb q => eb b o hb q) f0 f1 f3 f4 f5⟩
  self := fun A i s Q E st h => let ⟨⟨_, he⟩, _⟩ := st; wpAny_pyIter_enum he h
def iEnumT (K : PySem.W.Frag) (ta : TA) : TI := fun σ H R => ta σ H fun vs H1 => ∃ a xs, vs = [.ref a] ∧ SqT K H1 a xs ∧ R (IteT K a) H1
theorem pi_enumT {X : Cx} {e : Expr} {ta : TA} {p pos tpos : Pos} {elts : List Expr} {kk : Nat} (hg : Gl X "enumerate") (hm : X.mg "enumerate" = none) (ha : PA X [e] ta) (hs : starEach [e] X.env = [(false, eval e X.env)] := by rfl) :
    PI X (.Tuple elts kk tpos) (.Call (.Name "enumerate" p) [e] [] pos) (iEnumT X.K ta) := by
  refine ⟨fun pins s σ H R I h => ?_⟩
  refine Call_ (ld_blt I hg hm boot_enumerate (PyProof.Rows.callWith_type1 (thn (ha.run pos pins s σ H _ I h) fun us s1 ⟨vs, H1, I1, r1, q1⟩ => ?_) hs rfl))
  obtain ⟨a, xs, rfl, hq, q⟩ := q1
  rw [Vals.ref1 r1]
  obtain ⟨its, rv, pt, _⟩ := I1.tuple hq
  have la : a < s1.heap.objs.size := pt.lt
  refine call_enumT (show s1.heap.IsTuple a its.toArray from pt) fun g he hit _ hk => wpAny_pyIter_enum he ?_
  refine ⟨s1.heap.objs.size + 1, [s1.heap.objs.size + 1, s1.heap.objs.size], _, _, H1, rfl, I1.kept (t' := s1.toks) hk, turn_enumT a (s1.heap.objs.size + 1) s1.heap.objs.size (Nat.succ_ne_self _) (Nat.ne_of_lt la) (Nat.ne_of_gt (Nat.lt_succ_of_lt la)), ⟨⟨.none, by simpa using he⟩, hit⟩, fun b hb => ?_, q⟩
  have hle : s1.heap.objs.size ≤ b := by
    rcases List.mem_cons.mp hb with z | z
    · rw [z]
      exact Nat.le_succ _
    · rw [List.mem_singleton.mp z]
      exact Nat.le_refl _
  exact I1.fpOk hle (I1.hok.fresh hle)
/-- a for over it -/
theorem for_enumT {K : PySem.W.Frag} {a : Addr} {xs : List V} {g : TG} {tb : TS} {D : Ends} {σ : L2.St} {H : Hp} (Pv : Nat → L2.St → Hp → Prop) (h0 : Pv 0 σ H) (hl : ∀ i σ H, i ≤ xs.length → Pv i σ H → SqT K H a xs)
    (hs : ∀ i x σ H T, xs[i]? = some x → Pv i σ H → H T = none → g (.ref T) σ (upd H T (.tup [.int (i : Nat), x])) fun σ2 H2 => tb { D with nx := Pv (i + 1), ct := Pv (i + 1), bk := D.nx } σ2 H2) (hd : ∀ σ H, Pv xs.length σ H → D.nx σ H) :
    ∃ W : Nat → Nat → L2.St → Hp → Prop, (∃ m, W 0 m σ H) ∧ ∀ i m σ H, W i m σ H →
      ((IteT K a).stop i H ∧ D.nx σ H) ∨ ((IteT K a).go i H ∧ ∃ N : L2.St → Hp → Prop, (∀ σ' H', N σ' H' → ∃ m', m' < m ∧ W (i + 1) m' σ' H') ∧ ∀ x H', (IteT K a).yld i H x H' → g x σ H' fun σ2 H2 => tb { D with nx := N, ct := N, bk := D.nx } σ2 H2) := by
  refine ⟨fun i m σ H => m = xs.length - i ∧ i ≤ xs.length ∧ Pv i σ H, ⟨xs.length, by simp, Nat.zero_le _, h0⟩, ?_⟩
  rintro i m σ H ⟨rfl, hi, p⟩
  have q := hl i σ H hi p
  by_cases lt : i < xs.length
  · refine .inr ⟨⟨xs, xs[i], q, by simp [lt]⟩, Pv (i + 1), fun σ' H' p' => ⟨xs.length - (i + 1), by omega, rfl, lt, p'⟩, fun v H' y => ?_⟩
    obtain ⟨T, x, rfl, hT, rfl, hx⟩ := y
    exact hs i x σ H T (hx xs q) p hT
  · have e : i = xs.length := by omega
    subst e
    exact .inl ⟨⟨xs, q, rfl⟩, hd σ H p⟩
end K22
/-! f(k = v, ..) with keywords alone; a def that asks for no repr under way; the law's end for such a def. -/
namespace K22
open PySem PySem.Spec L2

/-! ### f(k = v, ..) -/
section
variable {X : Cx} {CX : CXT} {k : Nat} {f : Addr} {fd : FuncData} {ps ks : List Str} {sp : Sp} {E : XK} {x : Str} {p pos : Pos} {kws : List Keyword} {tk : TA} {g : List Value → List Value → List Value} {gV : List V → List V → List V}
theorem pe_callK0 (F : FnOk X.prog X.w X.K X.mg X.base CX k f fd ps sp) (hr : Room k X.A) (hg : Gl X x) (hm : X.mg x = some (.ref f)) (hk : PySem.W.keepIn X.K (.ref f) = true) (hb : KBinds X.K fd ps ks g gV) (hx : Passes CX X E) (hkw : PK X kws tk)
    (hall : (backToKw pos (keywordEach kws X.env)).all (·.1.isSome) = true := by rfl) (hks : (backToKw pos (keywordEach kws X.env)).filterMap (·.1) = ks := by rfl) (hdb : (x == ("__debug__" : Str)) = false := by decide)
    (hpl : ((backTo pos (starEach [] X.env)).any (·.1) || (backToKw pos (keywordEach kws X.env)).any (·.1.isNone)) = false := by rfl) :
    PE X (.Call (.Name x p) [] kws pos) (tCallK sp gV E tNil tk) := by
  refine ⟨fun pins s σ H Q I h => wpAny_Call_Name_kw (ld_glob I hg hm ?_ hdb)⟩
  refine PySem.W.callWith_KW0 (h₀ := X.base) I.ok.mod.kin hk hall (thn (hkw.run pos pins s σ H _ I h) fun ws s2 ⟨zs, H2, I2, rz, q2⟩ => ⟨I2.kIn, ?_⟩) hpl
  rw [hks]
  exact run_fnk (us := []) (vs := []) F hr hb hx I2 .nil rz q2
end
/-- how keywords alone bind the parameters of a def without defaults: g puts their values in the parameters' order -/
theorem kbinds_of {K : PySem.W.Frag} {x qual : Str} {st : Stmt} {f : Addr} {fd : FuncData} {ps : List Str} (ks : List Str) (g : {α : Type} → List α → List α) (F : Fun K x qual st f fd)
    (hrel : ∀ {zs : List V} {ws : List Value}, Vals zs ws → Vals (g zs) (g ws)) (hlen : ∀ ws : List Value, (g ws).length = ws.length) (hps : ps.length = ks.length) (h0 : ps ≠ [])
    (h : ∀ (kV doc pm : Value) (an : Option Addr) (cdv ct : Value) (ws : List Value), ws.length = ks.length → bindArgs (PySem.W.fnOf x qual (defArgs st) (defBody st) (defScope st) .none kV doc pm an cdv ct) ⟨[], ks.zip ws⟩ = pure (ps.zip (g ws))) :
    KBinds K fd ps ks (fun us ws => match us with | [] => g ws | _ => []) (fun vs zs => match vs with | [] => g zs | _ => []) := by
  obtain ⟨oc, od, kV, doc, pm, an, cdv, ct, osl, rfl, lk, hcd⟩ := F.ex
  refine ⟨fun s us ws X l => ?_, fun {vs us zs ws} r1 r2 => ?_⟩
  · cases us with
    | nil =>
      refine .of_eq (h kV doc pm an cdv ct ws ?_)
      have l2 : (g ws).length = ps.length := l
      rw [hlen] at l2
      omega
    | cons u us =>
      have l2 : (0 : Nat) = ps.length := l
      exact absurd (List.length_eq_zero_iff.mp l2.symm) h0
  · cases r1 with
    | nil => exact hrel r2
    | cons _ _ => exact .nil

/-! ### a def that is entered while no repr is under way -/
structure FnG (P : Program) (w : World) (K : PySem.W.Frag) (mg : Str → Option Value) (base : Heap) (k : Nat) (f : Addr) (fd : FuncData) (ps : List Str) (sp : Sp) : Prop where
  len : ∀ vs H Q E, sp vs H Q E → vs.length = ps.length
  run : ∀ (A : Around) (outer : List Env) (s : Shared) (H : Hp) (args : Args) (us : List Value) (vs : List V) (Q : VK) (E : XK), A.guards = some [] → Room k A → Env0 P w K mg base A outer s H → BindsTo s fd args (ps.zip us) → Vals vs us → sp vs H Q E →
    codeAny (model P w) A (.call (.ref f) args) (CR CX0 outer P w H s Q E) s
/-- such a def by its body -/
theorem FnG.of {P : Program} {w : World} {K : PySem.W.Frag} {mg : Str → Option Value} {base : Heap} {x qual : Str} {st : Stmt} {f : Addr} {fd : FuncData} {N ps : List Str} {k : Nat} {sp : Sp} (F : Fun K x qual st f fd) (S : FnScope N ps (defScope st)) (len : ∀ vs H Q E, sp vs H Q E → vs.length = ps.length)
    (body : ∀ (cdv : Value) (A : Around) (outer : List Env) (s : Shared) (H : Hp) (vs : List V) (Q : VK) (E : XK), A.guards = some [] → Room k (A.deeper (PyProof.Rows.envOfC qual (defScope st) s.heap.objs.size f cdv)) → sp vs H Q E →
      ∃ t, PSs (cxOf CX0 P w K mg base N qual (defScope st) f cdv A outer s H E).nox (defBody st) t ∧ t { nx := fun _ H' => Q .non H', rt := Q } (start N vs) H) : FnG P w K mg base (k + 1) f fd ps sp := by
  obtain ⟨oc, od, kV, doc, pm, an, cdv, ct, osl, rfl, lk, hcd⟩ := F.ex
  refine ⟨len, fun A outer s H args us vs Q E hg hr e0 hb r hsp => ?_⟩
  have inK : K.In s.heap := e0.mod.kin.keeps fun b o e => (e0.bs b o e).1
  have lim : s.heap.NoLimit := e0.mod.nolimit.keeps fun b o e => (e0.bs b o e).1
  refine codeAny_call_function hr.depth (inK _ _ lk) rfl S.co S.gen rfl (PySem.W.codeRec_of inK hcd) (hb _ _ _ _ ?_)
  refine wpAny_newFunctionEnv_cells S.kind (fun y hy => ?_) fun env he s1 x1 => ?_
  · rcases S.par y.1 (List.of_mem_zip (show (y.1, y.2) ∈ ps.zip us from hy)).1 with q | q
    · exact .inl q
    · exact .inr ⟨q, PySem.W.cellsFrom_some _ _ _ (.inl q)⟩
  · subst he
    refine ⟨lim.keeps x1.toInCall.keep, codeAny_func ?_⟩
    obtain ⟨t, ht, hq⟩ := body cdv A outer s H vs Q E hg (hr.deeper _) hsp
    have I : Inv (cxOf CX0 P w K mg base N qual (defScope st) f cdv A outer s H E) [] (start N vs) H s1 := inv_start S hr.hd e0 (len _ _ _ _ hsp) r x1
    refine wpAny_mono (ht.nox.run [] s1 (start N vs) H _ I hq) (fun fl s2 hs => ?_) fun _ _ z => z
    cases fl with
    | ret u =>
      obtain ⟨v, _, H2, J, rv, q⟩ := hs
      exact ⟨v, H2, J.os, J.bare, J.base, J.hok, rv, q⟩
    | next =>
      obtain ⟨_, H2, J, q⟩ := hs
      exact ⟨V.non, H2, J.os, J.bare, J.base, J.hok, rfl, q⟩
    | brk =>
      obtain ⟨_, _, _, q⟩ := hs
      exact q.elim
    | cont =>
      obtain ⟨_, _, _, q⟩ := hs
      exact q.elim
/-- a call of it from where no repr is under way -/
theorem pe_callG {X : Cx} {k : Nat} {f : Addr} {fd : FuncData} {ps : List Str} {sp : Sp} {x : Str} {p pos : Pos} {e : Expr} {es : List Expr} {t : TA} (F : FnG X.prog X.w X.K X.mg X.base k f fd ps sp) (hn : X.A.guards = some []) (hr : Room k X.A) (hg : Gl X x) (hm : X.mg x = some (.ref f)) (hk : PySem.W.keepIn X.K (.ref f) = true)
    (hb : Binds X.K fd ps []) (ha : PA X (e :: es) t) (hdb : (x == ("__debug__" : Str)) = false := by decide) (he : starEach (e :: es) X.env = (false, eval e X.env) :: starEach es X.env := by rfl) (hpl : (backTo pos (starEach es X.env)).any (·.1) = false := by rfl) :
    PE X (.Call (.Name x p) (e :: es) [] pos) (tCall sp [] E0 t) := by
  refine ⟨fun pins s σ H Q I h => wpAny_Call_Name_kw (ld_glob I hg hm ?_ hdb)⟩
  refine PySem.W.callWith_K (h₀ := X.base) I.ok.mod.kin hk (thn (ha.run pos pins s σ H _ I h) fun us s1 ⟨vs, H1, I1, r, q⟩ => ⟨I1.kIn, ?_⟩) he hpl
  have q2 : sp vs H1 Q E0 := by simpa using q
  have hl : (us ++ []).length = ps.length := by
    rw [List.append_nil, ← r.length]
    exact F.len _ _ _ _ q2
  have hb2 := hb s1 us I1.kIn hl
  rw [List.append_nil] at hb2
  refine wpAny_call (codeAny_mono (F.run X.A X.stack s1 H1 ⟨us, []⟩ us vs Q E0 hn hr I1.env0 hb2 r q2) fun r2 s2 hq => ?_)
  cases r2 with
  | error _ => exact hq.elim
  | ok fl =>
    cases fl with
    | ret u => exact I1.after hq
    | next => exact hq.elim
    | brk => exact hq.elim
    | cont => exact hq.elim

/-! ### the law's end, where the law's def asks for that -/
/-- what the law's call comes to -/
abbrev Well (s : Shared) (r : Result) (s' : Shared) : Prop := r = .ok (.ret (.bool true)) ∧ PySem.OldK s.heap s'.heap ∧ s'.os = s.os ∧ PyProof.Rows.AllBare s'.gens
section
variable {P : Program} {w : World} {K : PySem.W.Frag} {mg mb : Str → Option Value} {k : Nat} {fa a : Addr} {fd : FuncData} {x : Str} {sp : Sp} {s : Shared} {vs : List Value} {ns : List Int}
/-- from an abstract heap that tracks nothing but the script -/
theorem lawG_from {H : Hp} (inK : K.In s.heap) (gl : s.heap.Ns mainGlobals mg) (bl : s.heap.Ns builtinsNs mb) (bb : ∀ x : Str, x ≠ "__name__" → mb x = bootBuiltins x) (lim : s.heap.NoLimit) (gn : s.gens = #[])
    (ha : s.heap.get? a = some { cls := .type "list", data := .seq vs.toArray }) (hr : Room k callerA) (F : ∀ base : Heap, K.In base → base.Ns mainGlobals mg → FnG P w K mg base k fa fd [x] sp)
    (hbind : ∀ (s : Shared) (u : Value), BindsTo s fd ⟨[u], []⟩ [(x, u)]) (hsp : sp [.ref a] H (fun v _ => v = .bl true) E0)
    (only : Only H) (hok : HOk P w H s.heap) (at_ : ∀ b u, H b = some u → b = a) (offK : ∀ u, H a = some u → K.lookup a = none) : codeAny (model P w) callerA (.call (.ref fa) ⟨[.ref a], []⟩) (Well s) s := by
  have offD : ∀ {b : Addr} {o : Obj} {es : Array DictEntry} {ep : Nat}, s.heap.get? b = some o → o.data = .dict es ep → H b = none := fun {b o es ep} e d => by
    cases q : H b with
    | none => rfl
    | some u =>
      rw [at_ b u q, ha] at e
      cases e
      exact nomatch d
  have ns_ : ∀ {b : Addr} {m : Str → Option Value}, s.heap.Ns b m → (hidT s.heap H).Ns b m := fun ⟨o, es, ep, e, d, r⟩ => ⟨o, es, ep, hidT_get e (offD e d), d, r⟩
  have inB : K.In (hidT s.heap H) := fun b o e => hidT_get (inK b o e) (by
    cases q : H b with
    | none => rfl
    | some u =>
      have z := at_ b u q
      rw [z] at q e
      rw [offK u q] at e
      cases e)
  obtain ⟨mc, lim1, lim2⟩ := lim
  have e0 : Env0 P w K mg (hidT s.heap H) callerA [] s H :=
    ⟨rfl, ⟨inB, ns_ gl, ⟨mb, ns_ bl, bb⟩, ⟨mc, ns_ lim1, lim2⟩⟩, fun b o e => of_hidT e, Nat.le_of_eq (hidT_size _ _), trivial, (fun b hb => nomatch (show b ∈ ([] : List Addr) from hb)), hok, .of_eq gn⟩
  refine codeAny_mono ((F _ inB (ns_ gl)).run callerA [] s H ⟨[.ref a], []⟩ [.ref a] [.ref a] _ _ rfl hr e0 (hbind s (.ref a)) (.cons rfl .nil) hsp) fun r s2 h => ?_
  match r, h with
  | .error _, h => exact h.elim
  | .ok .next, h => exact h.elim
  | .ok .brk, h => exact h.elim
  | .ok .cont, h => exact h.elim
  | .ok (.ret u), ⟨v, H2, os, bare, un, hok2, r2, q⟩ =>
    obtain rfl : v = .bl true := q
    obtain rfl : u = Value.bool true := r2
    refine ⟨rfl, PySem.OldK.of_keep fun b o e => ?_, os, bare⟩
    rcases only b with z | ⟨ob, xs, z⟩
    · exact un.keep b o e z (fun m => nomatch (show b ∈ ([] : List Addr) from m)) (fun m => nomatch m)
    · obtain ⟨e1, _⟩ := hok b _ z
      obtain ⟨e2, _⟩ := hok2 b _ (un.frzs b ob _ z)
      rw [e] at e1
      rw [e2, e1]
theorem law_callG (inK : K.In s.heap) (gl : s.heap.Ns mainGlobals mg) (bl : s.heap.Ns builtinsNs mb) (bb : ∀ x : Str, x ≠ "__name__" → mb x = bootBuiltins x) (lim : s.heap.NoLimit) (gn : s.gens = #[])
    (ha : s.heap.get? a = some { cls := .type "list", data := .seq vs.toArray }) (hi : PyProof.Rows.IntsAre vs ns) (hl : ns.length ≤ sizeLine) (hr : Room k callerA)
    (F : ∀ base : Heap, K.In base → base.Ns mainGlobals mg → FnG P w K mg base k fa fd [x] sp) (hbind : ∀ (s : Shared) (u : Value), BindsTo s fd ⟨[u], []⟩ [(x, u)])
    (hsp : ∀ H : Hp, SqL K H a (ns.map V.int) → sp [.ref a] H (fun v _ => v = .bl true) E0) : codeAny (model P w) callerA (.call (.ref fa) ⟨[.ref a], []⟩) (Well s) s := by
  have rv := vals_ints hi
  have hl2 : (ns.map V.int).length ≤ sizeLine := by simpa using hl
  cases hk : K.lookup a with
  | some o =>
    have e := inK a o hk
    rw [ha] at e
    cases e
    have sq : SqL K (fun _ => none) a (ns.map V.int) := .inr ⟨_, vs.toArray, _, hk, rfl, rfl, rfl, by rw [List.size_toArray, ← rv.length]; exact hl2, by simpa using rv⟩
    exact lawG_from inK gl bl bb lim gn ha hr F hbind (hsp _ sq) (fun _ => .inl rfl) (fun _ _ z => nomatch z) (fun _ _ z => nomatch z) fun _ z => nomatch z
  | none =>
    have one : ∀ b u, (if b = a then some (HO.frz { cls := .type "list", data := .seq vs.toArray } (.lst (ns.map V.int))) else none) = some u → b = a ∧ u = HO.frz { cls := .type "list", data := .seq vs.toArray } (.lst (ns.map V.int)) := fun b u z => by
      by_cases hb : b = a
      · rw [if_pos hb] at z
        exact ⟨hb, (Option.some.inj z).symm⟩
      · rw [if_neg hb] at z
        cases z
    refine lawG_from (H := fun b => if b = a then some (.frz { cls := .type "list", data := .seq vs.toArray } (.lst (ns.map V.int))) else none) inK gl bl bb lim gn ha hr F hbind (hsp _ (.inl (.inr ⟨_, if_pos rfl⟩))) (fun b => ?_) (fun b u z => ?_) (fun b u z => (one b u z).1) fun _ _ => hk
    · by_cases hb : b = a
      · exact .inr ⟨_, _, if_pos hb⟩
      · exact .inl (if_neg hb)
    · obtain ⟨rfl, rfl⟩ := one b u z
      exact ⟨ha, hl2, vs, _, rv, ha⟩
end
theorem walk_ofG {l : PySem.W.OpenLaw} {n k : Nat} {q : Program} {loose : List Str} {XP : (Str → Option Value) → Heap → Prop} {YP : World → Heap → Prop} {d : PySem.DefRec} {K : Params → PySem.W.Frag} {sp : World → Sp} {x : Str}
    (hn : l.most = some n) (hn2 : n ≤ sizeLine) (hdf : d.params.defaults = []) (hr : Room k callerA) (hY : ∀ (w : World) (h : Heap), YP w h → (K w.params).In h)
    (F : ∀ (w : World) (mg : Str → Option Value) (fa : Addr) (h : Heap), (K w.params).In h → h.Ns mainGlobals mg → mg d.name = some (.ref fa) →
      ∃ fd : FuncData, (∀ (s : Shared) (u : Value), BindsTo s fd ⟨[u], []⟩ [(x, u)]) ∧ ∀ base : Heap, (K w.params).In base → base.Ns mainGlobals mg → FnG l.prog w (K w.params) mg base k fa fd [x] (sp w))
    (hsp : ∀ (w : World) (H : Hp) (a : Addr) (ns : List Int), ns.length ≤ n → SqL (K w.params) H a (ns.map V.int) → sp w [.ref a] H (fun v _ => v = .bl true) E0) :
    PySem.W.WalkO q loose XP YP l.row.toRowW d [] (fun f vs => PySem.call f vs) := by
  refine Att.attach_call hn hdf fun w s₀ s₁ mg mb fa o pm cd doc a vs ns G Y ho hd hcd hmg hobj hints hlen hg => ?_
  obtain ⟨fd, hb, hF⟩ := F w mg fa _ (hY w _ Y) G.T.g hmg
  exact law_callG (hY w _ Y) G.T.g G.T.b G.T.builtins G.T.nolimit hg hobj hints (Nat.le_trans hlen hn2) hr hF hb fun H hS => hsp w H a ns hlen hS
end K22
/-! The data: lists of places, lots, stores on the abstract heap. -/
namespace K22
open PySem PySem.Spec L2

/-! ### numbers -/
/-- places as ints -/
def zs (l : List Nat) : List Int := l.map fun (i : Nat) => (i : Int)
/-- places as values -/
abbrev nv (l : List Nat) : List V := (zs l).map V.int
theorem zs_length (l : List Nat) : (zs l).length = l.length := List.length_map ..
theorem nv_length (l : List Nat) : (nv l).length = l.length := by rw [List.length_map, zs_length]
theorem nv_get {l : List Nat} {i : Nat} {x : V} (h : (nv l)[i]? = some x) : ∃ j, l[i]? = some j ∧ x = .int (j : Int) := by
  unfold nv zs at h
  rw [List.getElem?_map, List.getElem?_map] at h
  cases e : l[i]? with
  | none =>
    rw [e] at h
    cases h
  | some j =>
    rw [e] at h
    exact ⟨j, rfl, (Option.some.inj h).symm⟩
theorem nv_snoc (l : List Nat) (j : Nat) : nv (l ++ [j]) = nv l ++ [.int (j : Int)] := by
  unfold nv zs
  rw [List.map_append, List.map_append]
  rfl
theorem nv_append (l m : List Nat) : nv (l ++ m) = nv l ++ nv m := by
  unfold nv zs
  rw [List.map_append, List.map_append]
theorem zs_inj {l m : List Nat} (h : zs l = zs m) : l = m := by
  unfold zs at h
  exact (List.map_inj_right (fun a b e => Int.ofNat.inj e)).mp h
theorem zs_nodup {l : List Nat} (h : l.Nodup) : (zs l).Nodup := List.pairwise_map.mpr (h.imp fun h e => h (Int.ofNat.inj e))
theorem mem_zs {l : List Nat} {z : Int} : z ∈ zs l ↔ ∃ j ∈ l, z = (j : Int) := by
  unfold zs
  rw [List.mem_map]
  exact ⟨fun ⟨j, h, e⟩ => ⟨j, h, e.symm⟩, fun ⟨j, h, e⟩ => ⟨j, h, e.symm⟩⟩
theorem natc {l : List Int} (h : ∀ z ∈ l, 0 ≤ z) : ∃ m, l = zs m := ⟨l.map Int.toNat, by
  unfold zs
  rw [List.map_map]
  have e : l.map ((fun i : Nat => (i : Int)) ∘ Int.toNat) = l.map id := List.map_congr_left fun z hz => Int.toNat_of_nonneg (h z hz)
  rw [e, List.map_id]⟩
theorem bor (a b : Nat) : Builtin.bitOr (a : Int) (b : Int) = ((a ||| b : Nat) : Int) := by
  rw [Bits.bitOr_pp (Int.natCast_nonneg a) (Int.natCast_nonneg b), Int.toNat_natCast, Int.toNat_natCast]
theorem band (a b : Nat) : Builtin.bitAnd (a : Int) (b : Int) = ((a &&& b : Nat) : Int) := by
  rw [PyProof.Rows.bitAnd_pp (Int.natCast_nonneg a) (Int.natCast_nonneg b), Int.toNat_natCast, Int.toNat_natCast]
theorem lessB_sub (a b : Nat) : lessB a b + (a &&& b) = a := by
  have h := Bits.nat_xor_add_and a (a &&& b)
  have e : a &&& (a &&& b) = a &&& b := by rw [← Nat.and_assoc, Nat.and_self]
  rw [e] at h
  unfold lessB
  omega
theorem bless (a b : Nat) : Builtin.bitAnd (a : Int) (Builtin.bitNot (b : Int)) = ((lessB a b : Nat) : Int) := by
  have h := lessB_sub a b
  rw [PyProof.Rows.bitAnd_not, band]
  omega
theorem bpow (i : Nat) : (1 : Int) * (2 : Int) ^ ((i : Int).toNat) = ((1 <<< i : Nat) : Int) := by
  rw [Int.one_mul, Int.toNat_natCast, Nat.one_shiftLeft]
  exact (Int.natCast_pow 2 i).symm
theorem bbit (b i : Nat) : Builtin.bitAnd ((b : Int) / (2 : Int) ^ ((i : Int).toNat)) 1 = if b.testBit i = true then 1 else 0 := by
  have e : (b : Int) / (2 : Int) ^ ((i : Int).toNat) = ((b / 2 ^ i : Nat) : Int) := by
    rw [Int.toNat_natCast, Int.natCast_ediv, Int.natCast_pow]
    rfl
  rw [e, PyProof.Rows.bitAnd_m1]
  rw [Nat.testBit_eq_decide_div_mod_eq]
  by_cases h : b / 2 ^ i % 2 = 1
  · rw [if_pos (decide_eq_true h)]
    omega
  · rw [if_neg (by rw [decide_eq_false h]; exact Bool.false_ne_true)]
    omega
end K22
/-! The program's text by places; basics and lots. -/
namespace K22
open PySem PySem.Spec L2

def top (i : Nat) : Stmt := PySem.Challenge.pw_twoabove_k22_whole_flat_lots.main.body.getD i (.Pass ⟨0, 0, 0, 0⟩)

/-- the names of the top that are built-in, its constants -/
structure Txt (mg : Str → Option Value) : Prop where
  isinstance : mg "isinstance" = none
  int : mg "int" = none
  bool : mg "bool" = none
  list : mg "list" = none
  tuple : mg "tuple" = none
  all : mg "all" = none
  len : mg "len" = none
  sorted : mg "sorted" = none
  set : mg "set" = none
  range : mg "range" = none
  enumerate : mg "enumerate" = none
  sum : mg "sum" = none
  abs : mg "abs" = none
  max : mg "max" = none
  divmod : mg "divmod" = none
  repr : mg "repr" = none
  least : ∃ u, mg "LEAST_SHELVES" = some u ∧ RelV (.int 2) u
  shelves : ∃ u, mg "MOST_SHELVES" = some u ∧ RelV (.int 8) u
  kinds : ∃ u, mg "MOST_KINDS" = some u ∧ RelV (.int 8) u
  lots : ∃ u, mg "MOST_LOTS" = some u ∧ RelV (.int 256) u

/-- a def of the top as it stands: its name, statement, parameters -/
structure At (K : PySem.W.Frag) (mg : Str → Option Value) (x : Str) (st : Stmt) (ps : List Str) (f : Addr) (fd : FuncData) : Prop where
  F : Fun K x x st f fd
  g : mg x = some (.ref f)
  b : Binds K fd ps []
abbrev IsAt (K : PySem.W.Frag) (mg : Str → Option Value) (x : Str) (i : Nat) (ps : List Str) : Prop := ∃ f fd, At K mg x (top i) ps f fd
section
variable {P : Program} {w : World} {K : PySem.W.Frag} {mg : Str → Option Value} {base : Heap} {x : Str} {st : Stmt} {f : Addr} {fd : FuncData} {N ps : List Str} {k : Nat} {sp : Sp}
/-- a def keeps its promise, by its body -/
theorem At.cal (a : At K mg x st ps f fd) (S : FnScope N ps (defScope st)) (len : ∀ vs H Q E, sp vs H Q E → vs.length = ps.length)
    (body : ∀ (cdv : Value) (A : Around) (outer : List Env) (s : Shared) (H : Hp) (vs : List V) (Q : VK) (E : XK), Room k (A.deeper (PyProof.Rows.envOfC x (defScope st) s.heap.objs.size f cdv)) → sp vs H Q E →
      ∃ t, PSs (cxOf CX0 P w K mg base N x (defScope st) f cdv A outer s H E).nox (defBody st) t ∧ t { nx := fun _ H' => Q .non H', rt := Q } (start N vs) H) : C8.Cal P w K mg base (k + 1) x sp [] :=
  ⟨f, fd, ps, [], a.F.ok S len body, a.g, a.F.kp, a.b, .nil⟩
end
/-! ### the promises -/
def spIsInt : Sp := fun vs H Q _ => ∃ i : Int, vs = [.int i] ∧ Q (.bl true) H
def spIsCount : Sp := fun vs H Q _ => ∃ i : Int, vs = [.int i] ∧ Q (.bl (decide (0 ≤ i))) H
def spIsList (K : PySem.W.Frag) : Sp := fun vs H Q _ => ∃ (a : Addr) (xs : List V), vs = [.ref a] ∧ Sq K H a xs ∧ ∀ H', Same H H' → Q (.bl true) H'
section
variable {P : Program} {w : World} {K : PySem.W.Frag} {mg : Str → Option Value} {base : Heap}
theorem sc9 : FnScope ["value"] ["value"] (defScope (top 9)) := ⟨rfl, rfl, rfl, by decide +kernel, rfl, by decide +kernel, by decide +kernel⟩
theorem ok_is_integer (T : Txt mg) (a : IsAt K mg "is_integer" 9 ["value"]) : C8.Cal P w K mg base 1 "is_integer" spIsInt [] := by
  obtain ⟨f, fd, a⟩ := a
  refine a.cal sc9 (fun vs H Q E h => ?_) (fun cdv A outer s H vs Q E hr h => ?_)
  · obtain ⟨i, rfl, _⟩ := h
    rfl
  · obtain ⟨i, rfl, k⟩ := h
    refine ⟨_, pss_one (ps_ret (pe_and (pe_callB call_isi (by rfl) T.isinstance (by decide +kernel) (pa_cons (pv 0) (pa_cons (pe_bltn (v := .ty "int") (by rfl) T.int (by decide +kernel) rfl) pa_nil)))
      (pe_one (pe_not (pe_callB call_isi (by rfl) T.isinstance (by decide +kernel) (pa_cons (pv 0) (pa_cons (pe_bltn (v := .ty "bool") (by rfl) T.bool (by decide +kernel) rfl) pa_nil))))))), ?_⟩
    refine ⟨_, rfl, _, _, _, _, true, rfl, .ty _, .base (.int i), kit_ty (by decide +kernel), _, rfl, iteT ?_⟩
    exact ⟨_, rfl, _, _, _, _, false, rfl, .ty _, .base (.int i), kit_ty (by decide +kernel), _, rfl, k⟩
theorem sc10 : FnScope ["value"] ["value"] (defScope (top 10)) := ⟨rfl, rfl, rfl, by decide +kernel, rfl, by decide +kernel, by decide +kernel⟩
theorem ok_is_count (T : Txt mg) (a : IsAt K mg "is_count" 10 ["value"]) (c1 : C8.Cal P w K mg base 1 "is_integer" spIsInt []) : C8.Cal P w K mg base 2 "is_count" spIsCount [] := by
  obtain ⟨f, fd, a⟩ := a
  refine a.cal sc10 (fun vs H Q E h => ?_) (fun cdv A outer s H vs Q E hr h => ?_)
  · obtain ⟨i, rfl, _⟩ := h
    rfl
  · obtain ⟨i, rfl, k⟩ := h
    refine ⟨_, pss_one (ps_ret (pe_and (C8.pe_c c1 hr (by decide) (by rfl) (pa_cons (pv 0) pa_nil)) (pe_one (pe_cmpR op_ge (pv 0) pe_int (nomark _))))), ?_⟩
    exact ⟨_, rfl, i, rfl, _, rfl, iteT ⟨_, rfl, _, _, rfl, rfl, k⟩⟩
theorem sc11 : FnScope ["value"] ["value"] (defScope (top 11)) := ⟨rfl, rfl, rfl, by decide +kernel, rfl, by decide +kernel, by decide +kernel⟩
/-- a list's, a tuple's type -/
theorem tyL {H : Hp} {a : Addr} {xs : List V} (h : SqL K H a xs) : TyX K H (.ref a) (.type "list") := by
  rcases h with (h | ⟨o, h⟩) | ⟨o, its, n, h, hc, _⟩
  · exact .base (.lst h)
  · exact .base (.frz h)
  · exact .kList h hc
theorem tyT {H : Hp} {a : Addr} {xs : List V} (h : SqT K H a xs) : TyX K H (.ref a) (.type "tuple") := by
  rcases h with (h | ⟨o, h⟩) | ⟨o, its, n, h, hc, _⟩
  · exact .base (.tup h)
  · exact .fTuple h
  · exact .kTuple h hc
theorem _root_.L2.Same.new {H : Hp} {p : Addr} {o : HO} (h : H p = none) : Same H (upd H p o) := fun b u e => by
  rw [upd_ne (ne_of_none e h)]
  exact e
theorem ok_is_list (T : Txt mg) (a : IsAt K mg "is_list" 11 ["value"]) : C8.Cal P w K mg base 1 "is_list" (spIsList K) [] := by
  obtain ⟨f, fd, a⟩ := a
  refine a.cal sc11 (fun vs H Q E h => ?_) (fun cdv A outer s H vs Q E hr h => ?_)
  · obtain ⟨a, xs, rfl, _⟩ := h
    rfl
  · obtain ⟨a, xs, rfl, hq, k⟩ := h
    refine ⟨_, pss_one (ps_ret (pe_callB call_isiT (by rfl) T.isinstance (by decide +kernel) (pa_cons (pv 0) (pa_cons (pe_tup (pa_cons (pe_bltn (v := .ty "list") (by rfl) T.list (by decide +kernel) rfl)
      (pa_cons (pe_bltn (v := .ty "tuple") (by rfl) T.tuple (by decide +kernel) rfl) pa_nil))) pa_nil)))), ?_⟩
    refine ⟨_, rfl, by show 2 ≤ sizeLine; decide, fun p hp => ?_⟩
    have k2 := k _ (Same.new (o := .tup [.ty "list", .ty "tuple"]) hp)
    rcases hq with hq | hq
    · exact ⟨_, p, _, _, _, true, rfl, upd_same, .cons (.ty _) (.cons (.ty _) .nil), tyL ((Same.new hp).seq hq), kitAny_cons (b := true) (kit_ty (by decide +kernel)) (fun z => nomatch z) (fun _ => rfl), k2⟩
    · exact ⟨_, p, _, _, _, true, rfl, upd_same, .cons (.ty _) (.cons (.ty _) .nil), tyT ((Same.new hp).sqT hq), kitAny_cons (b := false) (kit_ty (by decide +kernel)) (fun _ => kitAny_cons (b := true) (kit_ty (by decide +kernel)) (fun z => nomatch z) (fun _ => rfl)) (fun z => nomatch z), k2⟩

/-! ### lots -/
def spAreShelves : Sp := fun vs H Q _ => ∃ n : Nat, vs = [.int n] ∧ 2 ≤ n ∧ n ≤ 8 ∧ Q (.bl true) H
def spWantShelves : Sp := fun vs H Q _ => ∃ n : Nat, vs = [.int n] ∧ 2 ≤ n ∧ n ≤ 8 ∧ Q .non H
/-- unlike places below n -/
def Good (l : List Nat) (n : Nat) : Prop := l.Nodup ∧ ∀ i ∈ l, i < n
theorem Good.length {l : List Nat} {n : Nat} (g : Good l n) : l.length ≤ n := nodup_le g.1 g.2
def spIsLotOf (K : PySem.W.Frag) : Sp := fun vs H Q _ => ∃ (n : Nat) (a : Addr) (l : List Nat), vs = [.int n, .ref a] ∧ n ≤ 8 ∧ Sq K H a (nv l) ∧ Good l n ∧ ∀ H', Same H H' → Q (.bl true) H'
def spWantLot (K : PySem.W.Frag) : Sp := fun vs H Q _ => ∃ (n : Nat) (a : Addr) (l : List Nat), vs = [.int n, .ref a] ∧ n ≤ 8 ∧ Sq K H a (nv l) ∧ Good l n ∧ ∀ H', Same H H' → Q (.int (bitsN l : Nat)) H'
def spBitsOf (K : PySem.W.Frag) : Sp := fun vs H Q _ => ∃ (a : Addr) (l : List Nat), vs = [.ref a] ∧ Sq K H a (nv l) ∧ (∀ i ∈ l, i < 8) ∧ Q (.int (bitsN l : Nat)) H
def spSpotsOf : Sp := fun vs H Q _ => ∃ b : Nat, vs = [.int b] ∧ ∀ (H' : Hp) (p : Addr), Same H H' → H p = none → H' p = some (.tup (nv (told b))) → Q (.ref p) H'
def spToldLot : Sp := fun vs H Q _ => ∃ b : Nat, vs = [.int b] ∧ ∀ (H' : Hp) (p : Addr), Same H H' → H p = none → H' p = some (.lst (nv (told b))) → Q (.ref p) H'
theorem sc15 : FnScope ["value"] ["value"] (defScope (top 15)) := ⟨rfl, rfl, rfl, by decide +kernel, rfl, by decide +kernel, by decide +kernel⟩
theorem ok_are_shelves (T : Txt mg) (a : IsAt K mg "are_shelves" 15 ["value"]) (c1 : C8.Cal P w K mg base 2 "is_count" spIsCount []) : C8.Cal P w K mg base 3 "are_shelves" spAreShelves [] := by
  obtain ⟨f, fd, a⟩ := a
  refine a.cal sc15 (fun vs H Q E h => ?_) (fun cdv A outer s H vs Q E hr h => ?_)
  · obtain ⟨i, rfl, _⟩ := h
    rfl
  · obtain ⟨n, rfl, h1, h2, k⟩ := h
    refine ⟨_, pss_one (ps_ret (pe_and (C8.pe_c c1 hr (by decide) (by rfl) (pa_cons (pv 0) pa_nil)) (pe_one (pe_chain op_le op_le (C8.pe_gc (by rfl) T.least) (pv 0) (C8.pe_gc (by rfl) T.shelves))))), ?_⟩
    have e0 : decide (0 ≤ (n : Int)) = true := decide_eq_true (Int.natCast_nonneg n)
    have e1 : decide ((2 : Int) ≤ (n : Int)) = true := decide_eq_true (by omega)
    have e2 : decide ((n : Int) ≤ (8 : Int)) = true := decide_eq_true (by omega)
    refine ⟨_, rfl, (n : Int), rfl, _, rfl, ?_⟩
    rw [e0]
    refine iteT ⟨_, rfl, _, _, rfl, rfl, _, rfl, ?_⟩
    rw [e1]
    refine iteT ⟨_, _, rfl, rfl, ?_⟩
    show Q (.bl (decide ((n : Int) ≤ (8 : Int)))) H
    rw [e2]
    exact k
theorem sc16 : FnScope ["value"] ["value"] (defScope (top 16)) := ⟨rfl, rfl, rfl, by decide +kernel, rfl, by decide +kernel, by decide +kernel⟩
theorem ok_want_shelves (a : IsAt K mg "want_shelves" 16 ["value"]) (c1 : C8.Cal P w K mg base 3 "are_shelves" spAreShelves []) : C8.Cal P w K mg base 4 "want_shelves" spWantShelves [] := by
  obtain ⟨f, fd, a⟩ := a
  refine a.cal sc16 (fun vs H Q E h => ?_) (fun cdv A outer s H vs Q E hr h => ?_)
  · obtain ⟨i, rfl, _⟩ := h
    rfl
  · obtain ⟨n, rfl, h1, h2, k⟩ := h
    refine ⟨_, pss_one (ps_if (pt_not (pt_val (C8.pe_c c1 hr (by decide) (by rfl) (pa_cons (pv 0) pa_nil)))) pss_never pss_nil), ?_⟩
    exact ⟨_, rfl, n, rfl, h1, h2, _, rfl, iteF k⟩
theorem sc19 : FnScope ["lot", "found", "shelf"] ["lot"] (defScope (top 19)) := ⟨rfl, rfl, rfl, by decide +kernel, rfl, by decide +kernel, by decide +kernel⟩
theorem ok_bits_of (a : IsAt K mg "bits_of" 19 ["lot"]) : C8.Cal P w K mg base 1 "bits_of" (spBitsOf K) [] := by
  obtain ⟨f, fd, a⟩ := a
  refine a.cal sc19 (fun vs H Q E h => ?_) (fun cdv A outer s H vs Q E hr h => ?_)
  · obtain ⟨i, l, rfl, _⟩ := h
    rfl
  · obtain ⟨a, l, rfl, hq, h8, k⟩ := h
    refine ⟨_, pss_cons (ps_set (i := 1) sc19.nd rfl (Or.inl rfl) pe_int) (pss_cons (ps_for PassesOwn.never rfl (pi_seq (pv 0)) (pg_name (i := 2) sc19.nd rfl (Or.inl rfl))
      (pss_one (ps_set (i := 1) sc19.nd rfl (Or.inl rfl) (pe_op op_or (pv 1) (pe_op op_shl pe_int (pv 2)))))) (pss_one (ps_ret (pv 1)))), ?_⟩
    refine ⟨_, rfl, a, rfl, for_seq hq (fun i σ H' => ∃ v, σ = [some (.ref a), some (.int (bitsN (l.take i) : Nat)), v] ∧ H' = H) ⟨none, rfl, rfl⟩ (fun i σ H' ⟨_, _, e⟩ => by rw [e]; exact Same.refl H) ?_ ?_⟩
    · rintro i x σ H' hx ⟨v, rfl, rfl⟩
      obtain ⟨j, hj, rfl⟩ := nv_get hx
      have lj : j < 8 := h8 j (List.mem_of_getElem? hj)
      refine ⟨_, rfl, _, rfl, _, _, rfl, rfl, ⟨by omega, by omega, by decide⟩, _, _, rfl, rfl, ?_⟩
      have e : Builtin.bitOr ((bitsN (l.take i) : Nat) : Int) (1 * 2 ^ ((j : Int).toNat)) = ((bitsN (l.take (i + 1)) : Nat) : Int) := by
        rw [bpow, bor, List.take_add_one, hj]
        exact congrArg (fun z : Nat => (z : Int)) (bitsN_snoc _ _).symm
      exact ⟨some (.int j), congrArg (fun z => [some (V.ref a), some (V.int z), some (V.int j)]) e, rfl⟩
    · rintro σ H' ⟨v, rfl, rfl⟩
      refine ⟨_, rfl, ?_⟩
      have e : l.take (nv l).length = l := by rw [nv_length, List.take_length]
      rw [e]
      exact k
/-! ### comprehensions in short -/
/-- all([.. for x in xs]) where each item gives True; xs stands in the slot m -/
theorem all_seq {a : Addr} {xs : List V} {te : TE} {vs : List Nat} {m j : Nat} {σ : L2.St} {H : Hp} {Q : VK} (hm : σ[m]? = some (some (.ref a))) (hq : Sq K H a xs) (hl : xs.length ≤ 1000) (hw : ∀ x, wipe ((wipe σ vs).set j (some x)) vs = wipe σ vs)
    (elem : ∀ (i : Nat) (x : V) (H' : Hp) (Q2 : VK), xs[i]? = some x → Same H H' → (∀ H4, Same H' H4 → Q2 (.bl true) H4) → te ((wipe σ vs).set j (some x)) H' Q2) (hd : ∀ H', Same H H' → Q (.bl true) H') :
    tCB (rAll K) (tCons (tLc (iSeq K (tVar m)) (gName j) tYes te vs) tNil) σ H Q := by
  refine ⟨_, hm, a, rfl, lc_seq (g := gName j) (tt := tYes) (te := te) (vs := vs) (σ := σ) (Q := fun v H1 => rAll K [v] H1 Q) hq (fun D i H' => Same H H' ∧ H' D = some (.lst ((List.replicate i true).map V.bl)) ∧ i ≤ xs.length) (fun D hD => ⟨Same.new hD, upd_same, Nat.zero_le _⟩) (fun D i H' _ p => p.1) ?_ ?_⟩
  · rintro D i x H' hD hx ⟨s1, hd1, hi⟩
    refine ⟨hw x, ?_⟩
    refine elem i x H' _ hx s1 fun H4 s2 => ⟨_, s2 _ _ hd1, by rw [List.length_map, List.length_replicate]; exact small1000 (by omega), ?_⟩
    have lt : i < xs.length := (List.getElem?_eq_some_iff.mp hx).1
    refine ⟨fun b o e => ?_, ?_, lt⟩
    · rw [upd_ne (ne_of_none e hD)]
      exact s2 _ _ (s1 _ _ e)
    · rw [upd_same, List.replicate_succ', List.map_append]
      rfl
  · rintro D H' hD ⟨s1, hd1, _⟩
    refine ⟨D, List.replicate xs.length true, rfl, SqL.of hd1, ?_⟩
    have e : (List.replicate xs.length true).all id = true := List.all_eq_true.mpr fun b hb => (List.mem_replicate.mp hb).2
    rw [e]
    exact hd H' s1
/-- two lists that rise and have the same members, one of them without doubles: as many -/
theorem rising_length {l m : List Int} (hl : l.Pairwise (· < ·)) (hm : m.Nodup) (h : ∀ z, z ∈ l ↔ z ∈ m) : l.length = m.length := by
  have hp : l.Perm m := (List.perm_ext_iff_of_nodup (hl.imp fun h => Int.ne_of_lt h) hm).mpr h
  exact hp.length_eq
theorem sc17 : FnScope ["shelves", "value", "shelf"] ["shelves", "value"] (defScope (top 17)) := ⟨rfl, rfl, rfl, by decide +kernel, rfl, by decide +kernel, by decide +kernel⟩
theorem ok_is_lot_of (T : Txt mg) (a : IsAt K mg "is_lot_of" 17 ["shelves", "value"]) (c1 : C8.Cal P w K mg base 1 "is_list" (spIsList K) []) (c2 : C8.Cal P w K mg base 2 "is_count" spIsCount []) : C8.Cal P w K mg base 3 "is_lot_of" (spIsLotOf K) [] := by
  obtain ⟨f, fd, a⟩ := a
  refine a.cal sc17 (fun vs H Q E h => ?_) (fun cdv A outer s H vs Q E hr h => ?_)
  · obtain ⟨n, a, l, rfl, _⟩ := h
    rfl
  · obtain ⟨n, a, l, rfl, n8, hq, g, k⟩ := h
    refine ⟨_, pss_cons (ps_if (PW.pt (pw_or (pt_not (pt_val (C8.pe_c c1 hr (by decide) (by rfl) (pa_cons (pv 1) pa_nil)))) (pw_or1 (pt_not (pt_val (pe_callB (cr_all rfl) (by rfl) T.all (by decide +kernel) (pa_cons
        (pe_lc (own := [("shelf", 2)]) (by rfl) sc17.nd (pi_seq (pv 1)) (blkOk_by (N := ["shelves", "value", "shelf"]) (sc := defScope (top 17)) (by decide +kernel)) (fun _ _ _ _ _ => pg_name (i := 2) sc17.nd rfl (Or.inl rfl)) (fun _ _ _ _ _ => pts_nil)
          (fun _ _ _ _ _ => pe_and (C8.pe_c c2 hr (by decide) (by rfl) (pa_cons (pv 2) pa_nil)) (pe_one (pe_cmpR op_lt (pv 2) (pv 0) (nomark _))))) pa_nil)))))))
        (pss_one (ps_ret pe_bl)) pss_nil)
      (pss_one (ps_ret (pe_cmpR op_eq (pe_callB call_len_seq (by rfl) T.len (by decide +kernel) (pa_cons (pe_callB (cr_sortedSet rfl) (by rfl) T.sorted (by decide +kernel) (pa_cons (pe_callTy (cr_setI rfl) (by rfl) T.set (by decide +kernel) (pa_cons (pv 1) pa_nil)) pa_nil)) pa_nil))
        (pe_callB call_len_seq (by rfl) T.len (by decide +kernel) (pa_cons (pv 1) pa_nil)) (nomark _)))), ?_⟩
    have gl := g.length
    -- not is_list(value)
    refine ⟨_, rfl, a, nv l, rfl, hq, fun H1 s1 => ⟨_, rfl, ?_⟩⟩
    refine iteF ?_
    refine all_seq rfl (s1.sq hq) (by rw [nv_length]; omega) (fun _ => rfl) ?_ ?_
    · intro i x H' Q2 hx _ q
      obtain ⟨j, hj, rfl⟩ := nv_get hx
      have lj := g.2 j (List.mem_of_getElem? hj)
      have e0 : decide (0 ≤ (j : Int)) = true := decide_eq_true (Int.natCast_nonneg j)
      have e1 : decide ((j : Int) < (n : Int)) = true := decide_eq_true (by omega)
      refine ⟨_, rfl, (j : Int), rfl, _, rfl, ?_⟩
      rw [e0]
      refine iteT ⟨_, rfl, _, rfl, _, _, rfl, rfl, ?_⟩
      show Q2 (.bl (decide ((j : Int) < (n : Int)))) H'
      rw [e1]
      exact q H' (Same.refl _)
    · intro H2 s2
      refine ⟨_, rfl, iteF ?_⟩
      have s12 := s1.trans s2
      -- len(sorted(set(value))) == len(value)
      refine ⟨_, rfl, a, zs l, rfl, s12.sq hq, by rw [zs_length]; omega, fun p c hp hc => ?_⟩
      refine ⟨p, _, c, rfl, upd_same, by rw [zs_length] at hc; omega, fun ns q hs hm hl hq2 => ?_⟩
      have e1 : (ns.map V.int).length = l.length := by
        rw [List.length_map, ← zs_length l]
        refine rising_length hs ?_ fun z => (hm z).trans (by rw [decide_eq_true_eq])
        exact zs_nodup g.1
      have s3 : Same H (upd (upd H2 p (SetO w p (fun j => decide (j ∈ zs l)) c)) q (.lst (ns.map V.int))) := s12.trans ((Same.new hp).trans (Same.new hq2))
      have hv := s3.sq hq
      refine ⟨q, _, rfl, .inl (SqL.of upd_same), ?_⟩
      refine ⟨_, rfl, a, nv l, rfl, hv.elim .inl .inr, rfl, ?_⟩
      show Q (.bl (decide (V.int ((ns.map V.int).length : Int) = V.int ((nv l).length : Int)))) _
      rw [e1, nv_length, decide_eq_true rfl]
      exact k _ s3
theorem sc18 : FnScope ["shelves", "value"] ["shelves", "value"] (defScope (top 18)) := ⟨rfl, rfl, rfl, by decide +kernel, rfl, by decide +kernel, by decide +kernel⟩
theorem ok_want_lot (a : IsAt K mg "want_lot" 18 ["shelves", "value"]) (c1 : C8.Cal P w K mg base 3 "is_lot_of" (spIsLotOf K) []) (c2 : C8.Cal P w K mg base 1 "bits_of" (spBitsOf K) []) : C8.Cal P w K mg base 4 "want_lot" (spWantLot K) [] := by
  obtain ⟨f, fd, a⟩ := a
  refine a.cal sc18 (fun vs H Q E h => ?_) (fun cdv A outer s H vs Q E hr h => ?_)
  · obtain ⟨n, a, l, rfl, _⟩ := h
    rfl
  · obtain ⟨n, a, l, rfl, n8, hq, g, k⟩ := h
    refine ⟨_, pss_cons (ps_if (pt_not (pt_val (C8.pe_c c1 hr (by decide) (by rfl) (pa_cons (pv 0) (pa_cons (pv 1) pa_nil))))) pss_never pss_nil) (pss_one (ps_ret (C8.pe_c c2 hr (by decide) (by rfl) (pa_cons (pv 1) pa_nil)))), ?_⟩
    refine ⟨_, rfl, _, rfl, n, a, l, rfl, n8, hq, g, fun H1 s1 => ⟨_, rfl, iteF ?_⟩⟩
    exact ⟨_, rfl, a, l, rfl, s1.sq hq, fun i hi => Nat.lt_of_lt_of_le (g.2 i hi) n8, k H1 s1⟩
theorem sc20 : FnScope ["bits", "shelf"] ["bits"] (defScope (top 20)) := ⟨rfl, rfl, rfl, by decide +kernel, rfl, by decide +kernel, by decide +kernel⟩
theorem ok_spots_of (T : Txt mg) (a : IsAt K mg "spots_of" 20 ["bits"]) : C8.Cal P w K mg base 1 "spots_of" spSpotsOf [] := by
  obtain ⟨f, fd, a⟩ := a
  refine a.cal sc20 (fun vs H Q E h => ?_) (fun cdv A outer s H vs Q E hr h => ?_)
  · obtain ⟨b, rfl, _⟩ := h
    rfl
  · obtain ⟨b, rfl, k⟩ := h
    refine ⟨_, pss_one (ps_ret (pe_callTy call_tuple_of (by rfl) T.tuple (by decide +kernel) (pa_cons
      (pe_lc (own := [("shelf", 1)]) (by rfl) sc20.nd (pi_range1 (by rfl) T.range (pa_cons (C8.pe_gc (by rfl) T.shelves) pa_nil)) (blkOk_by (N := ["bits", "shelf"]) (sc := defScope (top 20)) (by decide +kernel)) (fun _ _ _ _ _ => pg_name (i := 1) sc20.nd rfl (Or.inl rfl))
        (fun _ _ _ _ _ => pts_one (pt_cmpR op_eq (pe_op op_and (pe_op op_shr (pv 0) (pv 1)) pe_int) pe_int (nomark _))) (fun _ _ _ _ _ => pv 1)) pa_nil))), ?_⟩
    refine ⟨8, rfl, by decide, by decide, fun D hD => lc_range (lo := 0) (n := 8) (fun i H' => Same H H' ∧ i ≤ 8 ∧ H' D = some (.lst (nv ((List.range i).filter fun s => b.testBit s)))) ⟨Same.new hD, by decide, upd_same⟩ ?_ ?_⟩
    · rintro i H' hi ⟨s1, _, hd⟩
      refine ⟨rfl, _, rfl, _, rfl, _, _, rfl, rfl, by omega, _, _, rfl, rfl, rfl, _, rfl, ?_⟩
      have ei : (0 : Int) + (i : Int) = (i : Int) := Int.zero_add _
      have et : decide (V.int (Builtin.bitAnd ((b : Int) / 2 ^ ((0 + (i : Int)).toNat)) 1) = V.int 1) = b.testBit i := by
        rw [ei, bbit]
        cases b.testBit i <;> decide
      rw [et]
      cases e : b.testBit i with
      | false =>
        refine iteF ⟨s1, hi, ?_⟩
        rw [List.range_succ, List.filter_append, List.filter_cons_of_neg (by rw [e]; exact Bool.false_ne_true), List.filter_nil, List.append_nil]
        exact hd
      | true =>
        refine iteT ⟨_, rfl, _, hd, ?_, fun c o z => ?_, hi, ?_⟩
        · rw [nv_length]
          exact small1000 (Nat.le_trans (List.length_filter_le _ _) (by rw [List.length_range]; omega))
        · rw [upd_ne (ne_of_none z hD)]
          exact s1 _ _ z
        · rw [upd_same, List.range_succ, List.filter_append, List.filter_cons_of_pos (by rw [e]), List.filter_nil, nv_snoc, ei]
    · rintro H' ⟨s1, _, hd⟩
      refine ⟨D, _, rfl, .inl ⟨SqL.of hd, fun l hl => k _ l (s1.trans (Same.new hl)) (s1.free hl) upd_same⟩⟩
theorem sc21 : FnScope ["bits"] ["bits"] (defScope (top 21)) := ⟨rfl, rfl, rfl, by decide +kernel, rfl, by decide +kernel, by decide +kernel⟩
theorem ok_told_lot (T : Txt mg) (a : IsAt K mg "told_lot" 21 ["bits"]) (c1 : C8.Cal P w K mg base 1 "spots_of" spSpotsOf []) : C8.Cal P w K mg base 2 "told_lot" spToldLot [] := by
  obtain ⟨f, fd, a⟩ := a
  refine a.cal sc21 (fun vs H Q E h => ?_) (fun cdv A outer s H vs Q E hr h => ?_)
  · obtain ⟨b, rfl, _⟩ := h
    rfl
  · obtain ⟨b, rfl, k⟩ := h
    refine ⟨_, pss_one (ps_ret (pe_callTy call_list_of (by rfl) T.list (by decide +kernel) (pa_cons (C8.pe_c c1 hr (by decide) (by rfl) (pa_cons (pv 0) pa_nil)) pa_nil))), ?_⟩
    exact ⟨_, rfl, b, rfl, fun H1 p s1 hp h1 => ⟨p, _, rfl, .inr (SqT.of h1), fun q hq => k _ q (s1.trans (Same.new hq)) (s1.free hq) upd_same⟩⟩
end
end K22
/-! Stores: kinds, the class, what a store looks like. -/
namespace K22
open PySem PySem.Spec L2

/-! ### comprehensions in short -/
/-- the first parts as values -/
abbrev refs {α : Type} (es : List (Addr × α)) : List V := es.map fun e => V.ref e.1
theorem refs_get {α : Type} {es : List (Addr × α)} {i : Nat} {x : V} (h : (refs es)[i]? = some x) : ∃ e, es[i]? = some e ∧ e ∈ es ∧ x = .ref e.1 := by
  rw [List.getElem?_map] at h
  cases q : es[i]? with
  | none =>
    rw [q] at h
    cases h
  | some e =>
    rw [q] at h
    exact ⟨e, rfl, List.mem_of_getElem? q, (Option.some.inj h).symm⟩
/-- values that are addresses, beside what they stand for -/
theorem pairs_of {α : Type} {R : Addr → α → Prop} : ∀ {ys : List V} {ls : List α}, ys.length = ls.length → (∀ (i : Nat) (y : V) (l : α), ys[i]? = some y → ls[i]? = some l → ∃ q, y = .ref q ∧ R q l) → ∃ es : List (Addr × α), ys = refs es ∧ es.map (·.2) = ls ∧ ∀ e ∈ es, R e.1 e.2
  | [], [], _, _ => ⟨[], rfl, rfl, fun _ h => nomatch h⟩
  | y :: ys, l :: ls, h, r => by
    obtain ⟨q, e, hq⟩ := r 0 y l rfl rfl
    obtain ⟨es, h1, h2, h3⟩ := pairs_of (ys := ys) (ls := ls) (R := R) (Nat.succ.inj h) fun i y2 l2 a b => r (i + 1) y2 l2 a b
    refine ⟨(q, l) :: es, ?_, ?_, fun e2 he => ?_⟩
    · rw [h1, e]
      rfl
    · rw [List.map_cons, h2]
    · rcases List.mem_cons.mp he with z | z
      · rw [z]
        exact hq
      · exact h3 e2 z
/-- all but a stays -/
def But (a : Addr) (H H' : Hp) : Prop := ∀ b o, H b = some o → b ≠ a → H' b = some o
section
variable {J : It} {G : Hp → Prop} {xs : List V} {j : Nat} {te : TE} {tt : TT} {vs : List Nat} {σ : L2.St} {H : Hp} {D : Addr} {Qd : Hp → Prop}
/-- [e for x in xs]: R tells what the i-th item's value is -/
theorem map_it (wk : Walk J xs.length G (YAt xs)) (hD : H D = none) (hG : ∀ H', Same H H' → G H') (hl : xs.length ≤ 10000) (hw : ∀ x, wipe ((wipe σ vs).set j (some x)) vs = wipe σ vs) (R : Nat → V → Hp → Prop) (mono : ∀ i y H1 H2, But D H1 H2 → R i y H1 → R i y H2)
    (elem : ∀ (i : Nat) (x : V) (H' : Hp) (Q2 : VK), xs[i]? = some x → Same H H' → H' D ≠ none → (∀ y H4, Same H' H4 → R i y H4 → Q2 y H4) → te ((wipe σ vs).set j (some x)) H' Q2)
    (hd : ∀ (H' : Hp) (ys : List V), Same H H' → H' D = some (.lst ys) → ys.length = xs.length → (∀ i y, ys[i]? = some y → R i y H') → Qd H') :
    ∃ W : Nat → Nat → Hp → Prop, (∃ m, W 0 m (upd H D (.lst []))) ∧ ∀ i m H, W i m H →
      (J.stop i H ∧ Qd H) ∨ (J.go i H ∧ ∃ Nx : Hp → Prop, (∀ H', Nx H' → ∃ m', m' < m ∧ W (i + 1) m' H') ∧ ∀ x H', J.yld i H x H' → gName j x (wipe σ vs) H' fun σ2 H2 => wipe σ2 vs = wipe σ vs ∧ tYes σ2 H2 fun b H3 =>
        if b = true then te σ2 H3 fun y H4 => ∃ acc, H4 D = some (.lst acc) ∧ acc.length < sizeLine ∧ Nx (upd H4 D (.lst (acc ++ [y]))) else Nx H3) := by
  refine lc_it (g := gName j) (tt := tYes) (te := te) (vs := vs) (σ := σ) wk (fun i H' => Same H H' ∧ i ≤ xs.length ∧ ∃ ys, H' D = some (.lst ys) ∧ ys.length = i ∧ ∀ i y, ys[i]? = some y → R i y H')
    ⟨Same.new hD, Nat.zero_le _, [], upd_same, rfl, fun i y z => nomatch (show (none : Option V) = some y from by simpa using z)⟩ (fun i H' _ p => hG H' p.1) ?_ ?_
  · rintro i x H1 H2 hi ⟨s1, _, ys, hd1, hn, hR⟩ ⟨rfl, hx⟩
    refine ⟨hw x, ?_⟩
    refine elem i x H2 _ hx s1 (by rw [hd1]; exact fun z => nomatch z) fun y H4 s2 hy => ⟨ys, s2 _ _ hd1, Nat.lt_of_lt_of_le (by omega : ys.length < 10001) (by decide), ?_⟩
    refine ⟨fun b o e => ?_, hi, ys ++ [y], upd_same, by rw [List.length_append, hn]; rfl, fun k z hz => ?_⟩
    · rw [upd_ne (ne_of_none e hD)]
      exact s2 _ _ (s1 _ _ e)
    · have bt : ∀ {H0 : Hp}, But D H0 (upd H0 D (.lst (ys ++ [y]))) := fun b o e hb => by
        rw [upd_ne hb]
        exact e
      rcases Nat.lt_or_ge k ys.length with lt | ge
      · rw [List.getElem?_append_left lt] at hz
        exact mono k z _ _ (fun b o e hb => bt b o (s2 b o e) hb) (hR k z hz)
      · rw [List.getElem?_append_right ge] at hz
        have hk : k = i := by
          have := (List.getElem?_eq_some_iff.mp hz).1
          simp only [List.length_cons, List.length_nil] at this
          omega
        subst hk
        rw [hn, Nat.sub_self] at hz
        cases hz
        exact mono k y _ _ bt hy
  · rintro H' ⟨s1, _, ys, hd1, hn, hR⟩
    exact hd H' ys s1 hd1 hn hR
/-- [x for x in xs if ..]: p tells whether the item stays -/
theorem filt_it (wk : Walk J xs.length G (YAt xs)) (hD : H D = none) (hG : ∀ H', Same H H' → G H') (hl : xs.length ≤ 10000) (hj : (wipe σ vs).length > j) (hw : ∀ x, wipe ((wipe σ vs).set j (some x)) vs = wipe σ vs) (p : V → Bool)
    (test : ∀ (i : Nat) (x : V) (H' : Hp) (Q2 : Bool → Hp → Prop), xs[i]? = some x → Same H H' → Q2 (p x) H' → tt ((wipe σ vs).set j (some x)) H' Q2)
    (hd : ∀ (H' : Hp), Same H H' → H' D = some (.lst (xs.filter p)) → Qd H') :
    ∃ W : Nat → Nat → Hp → Prop, (∃ m, W 0 m (upd H D (.lst []))) ∧ ∀ i m H, W i m H →
      (J.stop i H ∧ Qd H) ∨ (J.go i H ∧ ∃ Nx : Hp → Prop, (∀ H', Nx H' → ∃ m', m' < m ∧ W (i + 1) m' H') ∧ ∀ x H', J.yld i H x H' → gName j x (wipe σ vs) H' fun σ2 H2 => wipe σ2 vs = wipe σ vs ∧ tt σ2 H2 fun b H3 =>
        if b = true then tVar j σ2 H3 fun y H4 => ∃ acc, H4 D = some (.lst acc) ∧ acc.length < sizeLine ∧ Nx (upd H4 D (.lst (acc ++ [y]))) else Nx H3) := by
  refine lc_it (g := gName j) (tt := tt) (te := tVar j) (vs := vs) (σ := σ) wk (fun i H' => Same H H' ∧ i ≤ xs.length ∧ H' D = some (.lst ((xs.take i).filter p)))
    ⟨Same.new hD, Nat.zero_le _, by rw [upd_same]; rfl⟩ (fun i H' _ q => hG H' q.1) ?_ ?_
  · rintro i x H1 H2 hi ⟨s1, _, hd1⟩ ⟨rfl, hx⟩
    have et : xs.take (i + 1) = xs.take i ++ [x] := by rw [List.take_add_one, hx]; rfl
    refine ⟨hw x, test i x H2 _ hx s1 ?_⟩
    cases e : p x with
    | false =>
      refine iteF ⟨s1, hi, ?_⟩
      rw [et, List.filter_append, List.filter_cons_of_neg (by rw [e]; exact Bool.false_ne_true), List.filter_nil, List.append_nil]
      exact hd1
    | true =>
      have lf : ((xs.take i).filter p).length < sizeLine := by
        have h1 := List.length_filter_le p (xs.take i)
        have h2 := List.length_take_le i xs
        exact Nat.lt_of_lt_of_le (by omega : ((xs.take i).filter p).length < 10001) (by decide)
      refine iteT ⟨x, List.getElem?_set_self hj, _, hd1, lf, fun b o z => ?_, hi, ?_⟩
      · rw [upd_ne (ne_of_none z hD)]
        exact s1 _ _ z
      · rw [upd_same, et, List.filter_append, List.filter_cons_of_pos e, List.filter_nil]
  · rintro H' ⟨s1, _, hd1⟩
    rw [List.take_length] at hd1
    exact hd H' s1 hd1
end
/-- what is a permutation of images is the images of a permutation -/
theorem perm_map_inv {α β : Type} (g : α → β) {ys zs : List β} (h : ys.Perm zs) : ∀ l : List α, zs = l.map g → ∃ m : List α, m.Perm l ∧ ys = m.map g := by
  induction h with
  | nil => exact fun l e => ⟨l, .refl _, e⟩
  | @cons x l1 l2 hp ih =>
    intro l e
    cases l with
    | nil => cases e
    | cons a l =>
      injection e with e1 e2
      obtain ⟨m, hm, e3⟩ := ih l e2
      exact ⟨a :: m, hm.cons a, by rw [List.map_cons, e1, e3]⟩
  | @swap x y l0 =>
    intro l e
    match l, e with
    | a :: b :: l, e =>
      injection e with e1 e2
      injection e2 with e2 e3
      exact ⟨b :: a :: l, .swap a b l, by rw [List.map_cons, List.map_cons, e1, e2, e3]⟩
  | trans _ _ ih1 ih2 =>
    intro l e
    obtain ⟨m, hm, e2⟩ := ih2 l e
    obtain ⟨m2, hm2, e3⟩ := ih1 m e2
    exact ⟨m2, hm2.trans hm, e3⟩
end K22
/-! Stores: kinds, the class, want_store. -/
namespace K22
open PySem PySem.Spec L2

theorem k_hd : ¬ (("own_shelves" : Str) = "own_deliveries") := by decide +kernel
theorem k_hs : ¬ (("own_shelves" : Str) = "own_sales") := by decide +kernel
theorem k_hk : ¬ (("own_shelves" : Str) = "own_kept") := by decide +kernel
theorem k_ds : ¬ (("own_deliveries" : Str) = "own_sales") := by decide +kernel
theorem k_dk : ¬ (("own_deliveries" : Str) = "own_kept") := by decide +kernel
theorem k_sk : ¬ (("own_sales" : Str) = "own_kept") := by decide +kernel
/-- a store's attributes as __init__ lays them -/
def sf (n : Nat) (D S kd : Addr) : List (Str × V) := putF "own_kept" (.ref kd) (putF "own_sales" (.ref S) (putF "own_deliveries" (.ref D) (putF "own_shelves" (.int n) [])))
theorem sf_shelves (n : Nat) (D S kd : Addr) : (sf n D S kd).lookup ("own_shelves" : Str) = some (.int n) := by
  unfold sf
  rw [lookup_putF, if_neg k_hk, lookup_putF, if_neg k_hs, lookup_putF, if_neg k_hd, lookup_putF, if_pos rfl]
theorem sf_deliveries (n : Nat) (D S kd : Addr) : (sf n D S kd).lookup ("own_deliveries" : Str) = some (.ref D) := by
  unfold sf
  rw [lookup_putF, if_neg k_dk, lookup_putF, if_neg k_ds, lookup_putF, if_pos rfl]
theorem sf_sales (n : Nat) (D S kd : Addr) : (sf n D S kd).lookup ("own_sales" : Str) = some (.ref S) := by
  unfold sf
  rw [lookup_putF, if_neg k_sk, lookup_putF, if_pos rfl]
theorem sf_kept (n : Nat) (D S kd : Addr) : (sf n D S kd).lookup ("own_kept" : Str) = some (.ref kd) := by
  unfold sf
  rw [lookup_putF, if_pos rfl]
theorem putF_length (f : Str) (v : V) : ∀ fs : List (Str × V), (putF f v fs).length ≤ fs.length + 1
  | [] => Nat.le_refl _
  | (g, x) :: r => by
    show (if g = f then (g, v) :: r else (g, x) :: putF f v r).length ≤ _
    split
    · exact Nat.le_succ _
    · exact Nat.succ_le_succ (putF_length f v r)
/-- a store stands at p: n shelves, delivery kinds ds, sale kinds ss; what was reckoned of it in the dict at kd -/
structure StoreAt (C : Addr) (H : Hp) (p : Addr) (n : Nat) (ds ss : List Nat) (kd : Addr) : Prop where
  ob : ∃ dx D S, H p = some (.ins C dx (sf n D S kd)) ∧ H D = some (.tup (nv ds)) ∧ H S = some (.tup (nv ss))
  n8 : n ≤ 8
  dl : ds.length ≤ 8
  sl : ss.length ≤ 8
  dn : ∀ d ∈ ds, d < 2 ^ n
  sn : ∀ s ∈ ss, s < 2 ^ n
theorem StoreAt.same {C : Addr} {H H' : Hp} {p : Addr} {n : Nat} {ds ss : List Nat} {kd : Addr} (a : StoreAt C H p n ds ss kd) (s : Same H H') : StoreAt C H' p n ds ss kd := by
  obtain ⟨dx, D, S, h1, h2, h3⟩ := a.ob
  exact ⟨⟨dx, D, S, s _ _ h1, s _ _ h2, s _ _ h3⟩, a.n8, a.dl, a.sl, a.dn, a.sn⟩
/-- what the class is -/
structure StTxt (K : PySem.W.Frag) (mg : Str → Option Value) (C : Addr) : Prop where
  g : mg "Store" = some (.ref C)
  ins : C8.InsC K C
  nh : NoAttr K C "own_shelves"
  nd : NoAttr K C "own_deliveries"
  ns : NoAttr K C "own_sales"
  nk : NoAttr K C "own_kept"
/-! ### promises -/
def spIsKind (K : PySem.W.Frag) : Sp := fun vs H Q _ => ∃ (n : Nat) (a : Addr) (l : List Nat), vs = [.int n, .ref a] ∧ n ≤ 8 ∧ Sq K H a (nv l) ∧ Good l n ∧ l ≠ [] ∧ ∀ H', Same H H' → Q (.bl true) H'
/-- a list of kinds as they are passed -/
structure Kinds (K : PySem.W.Frag) (H : Hp) (a : Addr) (n : Nat) (es : List (Addr × List Nat)) : Prop where
  at_ : Sq K H a (refs es)
  few : es.length ≤ 8
  each : ∀ e ∈ es, Sq K H e.1 (nv e.2) ∧ Good e.2 n ∧ e.2 ≠ []
theorem Kinds.same {K : PySem.W.Frag} {H H' : Hp} {a : Addr} {n : Nat} {es : List (Addr × List Nat)} (k : Kinds K H a n es) (s : Same H H') : Kinds K H' a n es :=
  ⟨s.sq k.at_, k.few, fun e he => ⟨s.sq (k.each e he).1, (k.each e he).2⟩⟩
def spAreKinds (K : PySem.W.Frag) : Sp := fun vs H Q _ => ∃ (n : Nat) (a : Addr) (es : List (Addr × List Nat)), vs = [.int n, .ref a] ∧ n ≤ 8 ∧ Kinds K H a n es ∧ ∀ H', Same H H' → Q (.bl true) H'
def spPlainKinds (K : PySem.W.Frag) : Sp := fun vs H Q _ => ∃ (a : Addr) (bs : List Nat), vs = [.ref a] ∧ SqL K H a (nv bs) ∧ bs.length ≤ 60 ∧ (∀ b ∈ bs, b < 256) ∧
  ∀ (H' : Hp) (p : Addr) (ks : List Nat), Same H H' → H p = none → H' p = some (.tup (nv ks)) → (∀ x, x ∈ ks ↔ x ∈ bs) → ks.length ≤ bs.length → Q (.ref p) H'
/-- the bits of kinds -/
abbrev bitsOf (es : List (Addr × List Nat)) : List Nat := es.map fun e => bitsN e.2
def spInit (K : PySem.W.Frag) (C : Addr) : Sp := fun vs H Q _ => ∃ (p dx a c : Addr) (n : Nat) (es fs : List (Addr × List Nat)), vs = [.ref p, .int n, .ref a, .ref c] ∧ H p = some (.ins C dx []) ∧ 2 ≤ n ∧ n ≤ 8 ∧ Kinds K H a n es ∧ Kinds K H c n fs ∧
  ∀ (H' : Hp) (ds ss : List Nat) (kd : Addr), But p H H' → StoreAt C H' p n ds ss kd → H kd = none → H' kd = some (.dK []) → (∀ x, x ∈ ds ↔ x ∈ bitsOf es) → (∀ x, x ∈ ss ↔ x ∈ bitsOf fs) → Q .non H'
def spWantStore (C : Addr) : Sp := fun vs H Q _ => ∃ (p dx : Addr) (fs : List (Str × V)), vs = [.ref p] ∧ H p = some (.ins C dx fs) ∧ Q (.ref p) H
def spWantLotOf (K : PySem.W.Frag) (C : Addr) : Sp := fun vs H Q _ => ∃ (p a : Addr) (n : Nat) (ds ss : List Nat) (kd : Addr) (l : List Nat), vs = [.ref p, .ref a] ∧ StoreAt C H p n ds ss kd ∧ Sq K H a (nv l) ∧ Good l n ∧ ∀ H', Same H H' → Q (.int (bitsN l : Nat)) H'
section
variable {P : Program} {w : World} {K : PySem.W.Frag} {mg : Str → Option Value} {base : Heap} {C : Addr}
theorem sc24 : FnScope ["shelves", "value"] ["shelves", "value"] (defScope (top 24)) := ⟨rfl, rfl, rfl, by decide +kernel, rfl, by decide +kernel, by decide +kernel⟩
theorem ok_is_kind (T : Txt mg) (a : IsAt K mg "is_kind" 24 ["shelves", "value"]) (c1 : C8.Cal P w K mg base 3 "is_lot_of" (spIsLotOf K) []) : C8.Cal P w K mg base 4 "is_kind" (spIsKind K) [] := by
  obtain ⟨f, fd, a⟩ := a
  refine a.cal sc24 (fun vs H Q E h => ?_) (fun cdv A outer s H vs Q E hr h => ?_)
  · obtain ⟨n, a, l, rfl, _⟩ := h
    rfl
  · obtain ⟨n, a, l, rfl, n8, hq, g, ne, k⟩ := h
    refine ⟨_, pss_one (ps_ret (pe_and (C8.pe_c c1 hr (by decide) (by rfl) (pa_cons (pv 0) (pa_cons (pv 1) pa_nil))) (pe_one (pe_cmpR op_gt (pe_callB call_len_seq (by rfl) T.len (by decide +kernel) (pa_cons (pv 1) pa_nil)) pe_int (nomark _))))), ?_⟩
    refine ⟨_, rfl, _, rfl, n, a, l, rfl, n8, hq, g, fun H1 s1 => ⟨_, rfl, iteT ?_⟩⟩
    refine ⟨_, rfl, a, nv l, rfl, (s1.sq hq).elim .inl .inr, _, _, rfl, rfl, ?_⟩
    have e : decide ((0 : Int) < ((nv l).length : Int)) = true := decide_eq_true (by
      rw [nv_length]
      have := List.length_pos_iff.mpr ne
      omega)
    show Q (.bl (decide ((0 : Int) < ((nv l).length : Int)))) H1
    rw [e]
    exact k H1 s1
theorem sc25 : FnScope ["shelves", "value", "one"] ["shelves", "value"] (defScope (top 25)) := ⟨rfl, rfl, rfl, by decide +kernel, rfl, by decide +kernel, by decide +kernel⟩
theorem ok_are_kinds (T : Txt mg) (a : IsAt K mg "are_kinds" 25 ["shelves", "value"]) (c1 : C8.Cal P w K mg base 1 "is_list" (spIsList K) []) (c2 : C8.Cal P w K mg base 4 "is_kind" (spIsKind K) []) : C8.Cal P w K mg base 5 "are_kinds" (spAreKinds K) [] := by
  obtain ⟨f, fd, a⟩ := a
  refine a.cal sc25 (fun vs H Q E h => ?_) (fun cdv A outer s H vs Q E hr h => ?_)
  · obtain ⟨n, a, l, rfl, _⟩ := h
    rfl
  · obtain ⟨n, a, es, rfl, n8, kd, k⟩ := h
    refine ⟨_, pss_one (ps_ret (pe_and (C8.pe_c c1 hr (by decide) (by rfl) (pa_cons (pv 1) pa_nil)) (pe_and (pe_cmpR op_le (pe_callB call_len_seq (by rfl) T.len (by decide +kernel) (pa_cons (pv 1) pa_nil)) (C8.pe_gc (by rfl) T.kinds) (nomark _))
      (pe_one (pe_callB (cr_all rfl) (by rfl) T.all (by decide +kernel) (pa_cons
        (pe_lc (own := [("one", 2)]) (by rfl) sc25.nd (pi_seq (pv 1)) (blkOk_by (N := ["shelves", "value", "one"]) (sc := defScope (top 25)) (by decide +kernel)) (fun _ _ _ _ _ => pg_name (i := 2) sc25.nd rfl (Or.inl rfl)) (fun _ _ _ _ _ => pts_nil)
          (fun _ _ _ _ _ => C8.pe_c c2 hr (by decide) (by rfl) (pa_cons (pv 0) (pa_cons (pv 2) pa_nil)))) pa_nil)))))), ?_⟩
    refine ⟨_, rfl, a, _, rfl, kd.at_, fun H1 s1 => ⟨_, rfl, iteT ?_⟩⟩
    refine ⟨_, rfl, a, _, rfl, (s1.sq kd.at_).elim .inl .inr, _, _, rfl, rfl, _, rfl, ?_⟩
    have e : decide (((refs es).length : Int) ≤ (8 : Int)) = true := decide_eq_true (by
      have := kd.few
      rw [List.length_map]
      omega)
    rw [e]
    refine iteT ?_
    refine all_seq rfl (s1.sq kd.at_) (by have := kd.few; rw [List.length_map]; omega) (fun _ => rfl) ?_ (fun H2 s2 => k H2 (s1.trans s2))
    intro i x H' Q2 hx s2 q
    obtain ⟨e, _, he, rfl⟩ := refs_get hx
    obtain ⟨h1, h2, h3⟩ := (kd.same (s1.trans s2)).each e he
    exact ⟨_, rfl, _, rfl, n, e.1, e.2, rfl, n8, h1, h2, h3, q⟩
theorem sc28 : FnScope ["value"] ["value"] (defScope (top 28)) := ⟨rfl, rfl, rfl, by decide +kernel, rfl, by decide +kernel, by decide +kernel⟩
theorem ok_want_store (T : Txt mg) (t : StTxt K mg C) (a : IsAt K mg "want_store" 28 ["value"]) : C8.Cal P w K mg base 1 "want_store" (spWantStore C) [] := by
  obtain ⟨f, fd, a⟩ := a
  refine a.cal sc28 (fun vs H Q E h => ?_) (fun cdv A outer s H vs Q E hr h => ?_)
  · obtain ⟨p, dx, fs, rfl, _⟩ := h
    rfl
  · obtain ⟨p, dx, fs, rfl, hp, k⟩ := h
    refine ⟨_, pss_cons (ps_if (pt_not (pt_val (pe_callB (C8.call_isC t.ins) (by rfl) T.isinstance (by decide +kernel) (pa_cons (pv 0) (pa_cons (pe_glob (v := .ref C) (by rfl) t.g rfl) pa_nil))))) pss_never pss_nil) (pss_one (ps_ret (pv 0))), ?_⟩
    exact ⟨_, rfl, p, dx, fs, rfl, hp, _, rfl, iteF ⟨_, rfl, k⟩⟩
theorem sc29 : FnScope ["store", "value"] ["store", "value"] (defScope (top 29)) := ⟨rfl, rfl, rfl, by decide +kernel, rfl, by decide +kernel, by decide +kernel⟩
theorem ok_want_lot_of (t : StTxt K mg C) (a : IsAt K mg "want_lot_of" 29 ["store", "value"]) (c1 : C8.Cal P w K mg base 4 "want_lot" (spWantLot K) []) : C8.Cal P w K mg base 5 "want_lot_of" (spWantLotOf K C) [] := by
  obtain ⟨f, fd, a⟩ := a
  refine a.cal sc29 (fun vs H Q E h => ?_) (fun cdv A outer s H vs Q E hr h => ?_)
  · obtain ⟨p, a, n, ds, ss, kd, l, rfl, _⟩ := h
    rfl
  · obtain ⟨p, a, n, ds, ss, kd, l, rfl, st, hq, g, k⟩ := h
    obtain ⟨dx, D, S, h1, _, _⟩ := st.ob
    refine ⟨_, pss_one (ps_ret (C8.pe_c c1 hr (by decide) (by rfl) (pa_cons (pe_fld (pv 0) rfl) (pa_cons (pv 1) pa_nil)))), ?_⟩
    exact ⟨_, rfl, p, C, dx, _, _, rfl, h1, t.ins.cl, t.nh, sf_shelves _ _ _ _, _, rfl, n, a, l, rfl, st.n8, hq, g, k⟩
theorem sc26 : FnScope ["kinds", "lot", "bits"] ["kinds"] (defScope (top 26)) := ⟨rfl, rfl, rfl, by decide +kernel, rfl, by decide +kernel, by decide +kernel⟩
theorem ok_plain_kinds (T : Txt mg) (a : IsAt K mg "plain_kinds" 26 ["kinds"]) (c1 : C8.Cal P w K mg base 1 "bits_of" (spBitsOf K) []) (c2 : C8.Cal P w K mg base 2 "told_lot" spToldLot []) : C8.Cal P w K mg base 3 "plain_kinds" (spPlainKinds K) [] := by
  obtain ⟨f, fd, a⟩ := a
  refine a.cal sc26 (fun vs H Q E h => ?_) (fun cdv A outer s H vs Q E hr h => ?_)
  · obtain ⟨a, bs, rfl, _⟩ := h
    rfl
  · obtain ⟨a, bs, rfl, hq, h60, h256, k⟩ := h
    have hu : A.units + 3 + 64 < cLine := hr.units
    refine ⟨_, pss_one (ps_ret (pe_callTy call_tuple_of (by rfl) T.tuple (by decide +kernel) (pa_cons
      (pe_lc (own := [("lot", 1)]) (by rfl) sc26.nd (pi_list (pe_callB (cr_sortL hu) (by rfl) T.sorted (by decide +kernel) (pa_cons
          (pe_lc (own := [("bits", 2)]) (by rfl) sc26.nd (pi_list (pe_callB (cr_sortedSet rfl) (by rfl) T.sorted (by decide +kernel) (pa_cons (pe_callTy (cr_setI rfl) (by rfl) T.set (by decide +kernel) (pa_cons (pv 0) pa_nil)) pa_nil)))
            (blkOk_by (N := ["kinds", "lot", "bits"]) (sc := defScope (top 26)) (by decide +kernel)) (fun _ _ _ _ _ => pg_name (i := 2) sc26.nd rfl (Or.inl rfl)) (fun _ _ _ _ _ => pts_nil) (fun _ _ _ _ _ => C8.pe_c c2 hr (by decide) (by rfl) (pa_cons (pv 2) pa_nil))) pa_nil)))
        (blkOk_by (N := ["kinds", "lot", "bits"]) (sc := defScope (top 26)) (by decide +kernel)) (fun _ _ _ _ _ => pg_name (i := 1) sc26.nd rfl (Or.inl rfl)) (fun _ _ _ _ _ => pts_nil) (fun _ _ _ _ _ => C8.pe_c c1 hr (by decide) (by rfl) (pa_cons (pv 1) pa_nil))) pa_nil))), ?_⟩
    -- sorted(set(kinds))
    refine ⟨_, rfl, a, zs bs, rfl, .inl hq, by rw [zs_length]; omega, fun p c hp hc => ?_⟩
    rw [zs_length] at hc
    refine ⟨p, _, c, rfl, upd_same, by omega, fun ns q hs hm hl hq2 => ?_⟩
    obtain ⟨ms, rfl⟩ := natc (l := ns) fun z hz => by
      obtain ⟨j, _, e⟩ := mem_zs.mp (of_decide_eq_true ((hm z).mp hz))
      omega
    have hms : ∀ x, x ∈ ms ↔ x ∈ bs := fun x => by
      have h1 : x ∈ ms ↔ (x : Int) ∈ zs ms := ⟨fun h => mem_zs.mpr ⟨x, h, rfl⟩, fun h => by
        obtain ⟨j, hj, e⟩ := mem_zs.mp h
        rw [Int.ofNat.inj e]
        exact hj⟩
      have h2 : x ∈ bs ↔ (x : Int) ∈ zs bs := ⟨fun h => mem_zs.mpr ⟨x, h, rfl⟩, fun h => by
        obtain ⟨j, hj, e⟩ := mem_zs.mp h
        rw [Int.ofNat.inj e]
        exact hj⟩
      rw [h1, hm, decide_eq_true_eq, ← h2]
    have lms : ms.length = c := by rw [← zs_length ms]; exact hl
    have s1 : Same H (upd (upd H p (SetO w p (fun j => decide (j ∈ zs bs)) c)) q (.lst (nv ms))) := (Same.new hp).trans (Same.new hq2)
    -- [told_lot(bits) for bits in ..]
    refine ⟨q, rfl, ⟨_, SqL.of upd_same⟩, fun D hD => map_it (j := 2) (walk_list (K := K) (a := q) (xs := nv ms)) hD (fun H' s => s.seq (SqL.of upd_same)) (by rw [nv_length]; omega) (fun _ => rfl)
      (fun i y H2 => ∃ (b : Nat) (r : Addr), ms[i]? = some b ∧ y = .ref r ∧ r ≠ D ∧ H2 r = some (.lst (nv (told b)))) (fun i y H1 H2 bt ⟨b, r, e1, e2, e3, e4⟩ => ⟨b, r, e1, e2, e3, bt _ _ e4 e3⟩) ?_ ?_⟩
    · intro i x H' Q2 hx s2 hD2 kk
      obtain ⟨b, hb, rfl⟩ := nv_get hx
      refine ⟨_, rfl, b, rfl, fun H3 r s3 hr3 e3 => kk _ H3 s3 ⟨b, r, hb, rfl, fun z => hD2 (by rw [← z]; exact hr3), e3⟩⟩
    · intro H2 ys s2 hD2 ly hy
      rw [nv_length] at ly
      obtain ⟨es, rfl, hes, hes2⟩ := pairs_of (R := fun r (b : Nat) => H2 r = some (.lst (nv (told b)))) (ys := ys) (ls := ms) ly fun i y b hy1 hb1 => by
        obtain ⟨b2, r, e1, e2, _, e4⟩ := hy i y hy1
        rw [e1] at hb1
        cases hb1
        exact ⟨r, e2, e4⟩
      -- sorted(..)
      refine ⟨D, es.map fun e => (e.1, zs (told e.2)), rfl, ?_, ?_, fun rs p2 pm _ hp2 => ?_⟩
      · rw [List.map_map]
        exact SqL.of hD2
      · intro e he
        obtain ⟨e0, he0, rfl⟩ := List.mem_map.mp he
        exact SqL.of (hes2 e0 he0)
      · obtain ⟨fs, pf, rfl⟩ := perm_map_inv (fun e : Addr × Nat => (e.1, zs (told e.2))) pm es rfl
        rw [List.map_map]
        have s3 : Same H2 (upd H2 p2 (.lst (refs fs))) := Same.new hp2
        have hf : ∀ e ∈ fs, H2 e.1 = some (.lst (nv (told e.2))) ∧ e.2 ∈ ms := fun e he => by
          have he2 := pf.mem_iff.mp he
          exact ⟨hes2 e he2, by rw [← hes]; exact List.mem_map.mpr ⟨e, he2, rfl⟩⟩
        have lf : fs.length = ms.length := by
          rw [pf.length_eq, ← hes, List.length_map]
        -- [bits_of(lot) for lot in ..]
        refine ⟨p2, rfl, ⟨_, SqL.of upd_same⟩, fun D2 hD3 => map_it (j := 1) (walk_list (K := K) (a := p2) (xs := refs fs)) hD3 (fun H' s => s.seq (SqL.of upd_same)) (by rw [List.length_map]; omega) (fun _ => rfl)
          (fun i y H2 => ∃ e, fs[i]? = some e ∧ y = .int (e.2 : Nat)) (fun i y H1 H2 _ h => h) ?_ ?_⟩
        · intro i x H' Q2 hx s4 _ kk
          obtain ⟨e, e1, he, rfl⟩ := refs_get hx
          obtain ⟨h1, h2⟩ := hf e he
          have e256 := h256 _ ((hms _).mp h2)
          refine ⟨_, rfl, e.1, told e.2, rfl, .inl (SqL.of (s4 _ _ (s3 _ _ h1))), fun i hi => told_lt hi, ?_⟩
          exact kk _ H' (Same.refl _) ⟨e, e1, by rw [bitsN_told e256]⟩
        · intro H4 zs4 s4 hD4 lz hz
          have ez : zs4 = nv (fs.map (·.2)) := by
            refine List.ext_getElem? fun i => ?_
            cases e1 : zs4[i]? with
            | none =>
              have := List.getElem?_eq_none_iff.mp e1
              rw [lz, List.length_map] at this
              refine (List.getElem?_eq_none_iff.mpr ?_).symm
              rw [nv_length, List.length_map]
              exact this
            | some y =>
              obtain ⟨e, h1, h2⟩ := hz i y e1
              unfold nv zs
              rw [List.getElem?_map, List.getElem?_map, List.getElem?_map, h1, h2]
              rfl
          rw [ez] at hD4
          refine ⟨D2, _, rfl, .inl ⟨SqL.of hD4, fun l hl => ?_⟩⟩
          have s5 : Same H (upd H4 l (.tup (nv (fs.map (·.2))))) := s1.trans (s2.trans (s3.trans (s4.trans (Same.new hl))))
          refine k _ l (fs.map (·.2)) s5 ((s1.trans (s2.trans (s3.trans s4))).free hl) upd_same (fun x => ?_) (by rw [List.length_map, lf, lms]; exact hc)
          have e1 : x ∈ fs.map (·.2) ↔ x ∈ es.map (·.2) := (pf.map (·.2)).mem_iff
          rw [e1, hes]
          exact hms x
end
end K22
/-! Store.__init__ -/
namespace K22
open PySem PySem.Spec L2
/-- values that are the ints of ls -/
theorem nv_of {ys : List V} {ls : List Nat} (hl : ys.length = ls.length) (h : ∀ (i : Nat) (y : V), ys[i]? = some y → ∃ b : Nat, ls[i]? = some b ∧ y = V.int b) : ys = nv ls := by
  refine List.ext_getElem? fun i => ?_
  cases e : ys[i]? with
  | none =>
    have := List.getElem?_eq_none_iff.mp e
    refine (List.getElem?_eq_none_iff.mpr ?_).symm
    rw [nv_length]
    omega
  | some y =>
    obtain ⟨b, h1, h2⟩ := h i y e
    unfold nv zs
    rw [List.getElem?_map, List.getElem?_map, h1, h2]
    rfl
/-- [e for x in xs], xs in the slot m -/
theorem map_seq {K : PySem.W.Frag} {a : Addr} {xs : List V} {te : TE} {vs : List Nat} {m j : Nat} {σ : L2.St} {H : Hp} {Q : VK} (hm : σ[m]? = some (some (.ref a))) (hq : Sq K H a xs) (hl : xs.length ≤ 10000) (hw : ∀ x, wipe ((wipe σ vs).set j (some x)) vs = wipe σ vs)
    (R : Addr → Nat → V → Hp → Prop) (mono : ∀ D i y H1 H2, But D H1 H2 → R D i y H1 → R D i y H2)
    (elem : ∀ (D : Addr) (i : Nat) (x : V) (H' : Hp) (Q2 : VK), xs[i]? = some x → Same H H' → H' D ≠ none → (∀ y H4, Same H' H4 → R D i y H4 → Q2 y H4) → te ((wipe σ vs).set j (some x)) H' Q2)
    (hd : ∀ (D : Addr) (H' : Hp) (ys : List V), H D = none → Same H H' → H' D = some (.lst ys) → ys.length = xs.length → (∀ i y, ys[i]? = some y → R D i y H') → Q (.ref D) H') :
    tLc (iSeq K (tVar m)) (gName j) tYes te vs σ H Q := by
  refine ⟨_, hm, a, rfl, ?_⟩
  rcases hq with h | h
  · exact .inl ⟨⟨_, h⟩, fun D hD => map_it (j := j) (te := te) (vs := vs) (σ := σ) (Qd := fun H' => Q (.ref D) H') (walk_list (K := K) (a := a) (xs := xs)) hD (fun H' s => s.seq h) hl hw (R D) (mono D) (elem D) (hd D · · hD)⟩
  · exact .inr ⟨⟨_, h⟩, fun D hD => map_it (j := j) (te := te) (vs := vs) (σ := σ) (Qd := fun H' => Q (.ref D) H') (walk_tup (K := K) (a := a) (xs := xs)) hD (fun H' s => s.sqT h) hl hw (R D) (mono D) (elem D) (hd D · · hD)⟩
section
variable {P : Program} {w : World} {K : PySem.W.Frag} {mg : Str → Option Value} {base : Heap} {C : Addr}
/-- [bits_of(kind) for kind in ..], the kinds in the slot m -/
theorem bits_lc {σ : L2.St} {H : Hp} {Q : VK} {a : Addr} {m j n : Nat} {es : List (Addr × List Nat)} {vs : List Nat} (hm : σ[m]? = some (some (.ref a))) (n8 : n ≤ 8) (hq : Sq K H a (refs es)) (few : es.length ≤ 10000) (each : ∀ e ∈ es, Sq K H e.1 (nv e.2) ∧ Good e.2 n)
    (hj : ∀ x, ((wipe σ vs).set j (some x))[j]? = some (some x)) (hw : ∀ x, wipe ((wipe σ vs).set j (some x)) vs = wipe σ vs)
    (hd : ∀ (D : Addr) (H' : Hp), H D = none → Same H H' → H' D = some (.lst (nv (bitsOf es))) → Q (.ref D) H') :
    tLc (iSeq K (tVar m)) (gName j) tYes (tCall (spBitsOf K) [] C8.E0 (tCons (tVar j) tNil)) vs σ H Q := by
  refine map_seq hm hq (by rw [List.length_map]; exact few) hw (fun _ i y _ => ∃ e, es[i]? = some e ∧ y = .int (bitsN e.2 : Nat)) (fun _ _ _ _ _ _ h => h) ?_ ?_
  · intro D i x H' Q2 hx s1 _ kk
    obtain ⟨e, e1, he, rfl⟩ := refs_get hx
    obtain ⟨h1, h2⟩ := each e he
    exact ⟨_, hj _, e.1, e.2, rfl, s1.sq h1, fun i hi => Nat.lt_of_lt_of_le (h2.2 i hi) n8, kk _ H' (Same.refl _) ⟨e, e1, rfl⟩⟩
  · intro D H' ys hD s1 hD1 ly hy
    have ey : ys = nv (bitsOf es) := nv_of (by rw [ly, List.length_map, List.length_map]) fun i y h => by
      obtain ⟨e, h1, h2⟩ := hy i y h
      exact ⟨bitsN e.2, by rw [List.getElem?_map, h1]; rfl, h2⟩
    rw [ey] at hD1
    exact hd D H' hD s1 hD1
abbrev sInit : Stmt := inClass (top 27) 0
theorem scI : FnScope ["self", "shelves", "deliveries", "sales", "kind"] ["self", "shelves", "deliveries", "sales"] (defScope sInit) := ⟨rfl, rfl, rfl, by decide +kernel, rfl, by decide +kernel, by decide +kernel⟩
theorem bits_lt {es : List (Addr × List Nat)} {n : Nat} (each : ∀ e ∈ es, Good e.2 n) : ∀ b ∈ bitsOf es, b < 2 ^ n := fun b hb => by
  obtain ⟨e, he, rfl⟩ := List.mem_map.mp hb
  exact bitsN_lt (each e he).2
theorem ok_init (t : StTxt K mg C) {f : Addr} {fd : FuncData} (F : Fun K "__init__" "Store.__init__" sInit f fd) (M : Mk K C f) (b : Binds K fd ["self", "shelves", "deliveries", "sales"] []) (c1 : C8.Cal P w K mg base 4 "want_shelves" spWantShelves []) (c2 : C8.Cal P w K mg base 5 "are_kinds" (spAreKinds K) [])
    (c3 : C8.Cal P w K mg base 1 "bits_of" (spBitsOf K) []) (c4 : C8.Cal P w K mg base 3 "plain_kinds" (spPlainKinds K) []) : C8.Mak P w K mg base 6 "Store" C (spInit K C) [] := by
  refine ⟨f, fd, _, [], M, ?_, t.g, b, .nil⟩
  refine F.ok scI (fun vs H Q E h => ?_) (fun cdv A outer s H vs Q E hr h => ?_)
  · obtain ⟨p, dx, a, c, n, es, fs, rfl, _⟩ := h
    rfl
  · obtain ⟨p, dx, a, c, n, es, fs, rfl, hp, n2, n8, k1, k2, k⟩ := h
    refine ⟨_, pss_cons (ps_expr (C8.pe_c c1 hr (by decide) (by rfl) (pa_cons (pv 1) pa_nil)))
      (pss_cons (ps_if (pt_not (pt_val (C8.pe_c c2 hr (by decide) (by rfl) (pa_cons (pv 1) (pa_cons (pv 2) pa_nil))))) pss_never pss_nil)
      (pss_cons (ps_if (pt_not (pt_val (C8.pe_c c2 hr (by decide) (by rfl) (pa_cons (pv 1) (pa_cons (pv 3) pa_nil))))) pss_never pss_nil)
      (pss_cons (ps_fld (pv 0) (pv 1) rfl)
      (pss_cons (ps_fld (pv 0) (C8.pe_c c4 hr (by decide) (by rfl) (pa_cons
        (pe_lc (own := [("kind", 4)]) (by rfl) scI.nd (pi_seq (pv 2)) (blkOk_by (N := ["self", "shelves", "deliveries", "sales", "kind"]) (sc := defScope sInit) (by decide +kernel)) (fun _ _ _ _ _ => pg_name (i := 4) scI.nd rfl (Or.inl rfl)) (fun _ _ _ _ _ => pts_nil)
          (fun _ _ _ _ _ => C8.pe_c c3 hr (by decide) (by rfl) (pa_cons (pv 4) pa_nil))) pa_nil)) rfl)
      (pss_cons (ps_fld (pv 0) (C8.pe_c c4 hr (by decide) (by rfl) (pa_cons
        (pe_lc (own := [("kind", 4)]) (by rfl) scI.nd (pi_seq (pv 3)) (blkOk_by (N := ["self", "shelves", "deliveries", "sales", "kind"]) (sc := defScope sInit) (by decide +kernel)) (fun _ _ _ _ _ => pg_name (i := 4) scI.nd rfl (Or.inl rfl)) (fun _ _ _ _ _ => pts_nil)
          (fun _ _ _ _ _ => C8.pe_c c3 hr (by decide) (by rfl) (pa_cons (pv 4) pa_nil))) pa_nil)) rfl)
      (pss_one (ps_fld (pv 0) pe_dnewK rfl))))))), ?_⟩
    -- want_shelves, are_kinds
    refine ⟨_, rfl, n, rfl, n2, n8, ?_⟩
    refine ⟨_, rfl, _, rfl, n, a, es, rfl, n8, k1, fun H1 s1 => ⟨_, rfl, iteF ?_⟩⟩
    refine ⟨_, rfl, _, rfl, n, c, fs, rfl, n8, k2.same s1, fun H2 s2 => ⟨_, rfl, iteF ?_⟩⟩
    have s12 := s1.trans s2
    have hp2 := s12 _ _ hp
    -- self.own_shelves
    refine ⟨_, rfl, _, rfl, p, C, dx, [], rfl, hp2, t.ins.cl, t.nh, by show 0 < 1000; decide, ?_⟩
    generalize hH3 : upd H2 p (.ins C dx (putF "own_shelves" (.int n) [])) = H3
    have hp3 : H3 p = some (.ins C dx (putF "own_shelves" (.int n) [])) := by rw [← hH3]; exact upd_same
    have b3 : But p H2 H3 := fun b o e hb => by rw [← hH3, upd_ne hb]; exact e
    -- what was passed is none of p
    have keep : ∀ {H' : Hp} {x : Addr} {xs : List V}, But p H2 H' → Sq K H2 x xs → Sq K H' x xs := fun {H' x xs} bt h => by
      have np : ∀ {o : HO}, H2 x = some o → (∀ C dx fs, o ≠ .ins C dx fs) → H' x = some o := fun e ne => bt _ _ e fun z => by
        rw [z, hp2] at e
        exact ne _ _ _ (Option.some.inj e).symm
      rcases h with h | h
      · rcases h with (h | ⟨o, h⟩) | h
        · exact .inl (.inl (.inl (np h fun _ _ _ z => nomatch z)))
        · exact .inl (.inl (.inr ⟨o, np h fun _ _ _ z => nomatch z⟩))
        · exact .inl (.inr h)
      · rcases h with (h | ⟨o, h⟩) | h
        · exact .inr (.inl (.inl (np h fun _ _ _ z => nomatch z)))
        · exact .inr (.inl (.inr ⟨o, np h fun _ _ _ z => nomatch z⟩))
        · exact .inr (.inr h)
    have ke : ∀ {H' : Hp} {x : Addr} {gs : List (Addr × List Nat)}, But p H2 H' → Kinds K H2 x n gs → Kinds K H' x n gs := fun bt h => ⟨keep bt h.at_, h.few, fun e he => ⟨keep bt (h.each e he).1, (h.each e he).2⟩⟩
    have k1' := ke b3 (k1.same s12)
    -- self.own_deliveries
    dsimp only [tSeq, sFld, tCall, tCons]
    refine bits_lc ?_ n8 k1'.at_ (by have := k1'.few; omega) (fun e he => ⟨(k1'.each e he).1, (k1'.each e he).2.1⟩) ?_ ?_ ?_
    · rfl
    · exact fun _ => rfl
    · exact fun _ => rfl
    intro D1 H4 hD1 s4 e4
    refine ⟨D1, bitsOf es, rfl, SqL.of e4, by rw [List.length_map]; have := k1.few; omega, fun b hb => Nat.lt_of_lt_of_le (bits_lt (fun e he => (k1.each e he).2.1) b hb) (pow_le_256 n8), fun H5 D2 ds s5 hD2 e5 m5 l5 => ?_⟩
    have hp5 := s5 _ _ (s4 _ _ hp3)
    refine ⟨_, rfl, p, C, dx, _, rfl, hp5, t.ins.cl, t.nd, Nat.lt_of_le_of_lt (putF_length _ _ _) (by decide), ?_⟩
    generalize hH6 : upd H5 p (.ins C dx (putF "own_deliveries" (.ref D2) (putF "own_shelves" (.int n) []))) = H6
    have hp6 : H6 p = some (.ins C dx (putF "own_deliveries" (.ref D2) (putF "own_shelves" (.int n) []))) := by rw [← hH6]; exact upd_same
    have b6 : But p H2 H6 := fun b o e hb => by rw [← hH6, upd_ne hb]; exact s5 _ _ (s4 _ _ (b3 _ _ e hb))
    have nD2 : D2 ≠ p := fun z => by
      rw [z, hp5] at e5
      cases e5
    have e6 : H6 D2 = some (.tup (nv ds)) := by rw [← hH6, upd_ne nD2]; exact e5
    have k2' := ke b6 (k2.same s12)
    -- self.own_sales
    refine bits_lc ?_ n8 k2'.at_ (by have := k2'.few; omega) (fun e he => ⟨(k2'.each e he).1, (k2'.each e he).2.1⟩) ?_ ?_ ?_
    · rfl
    · exact fun _ => rfl
    · exact fun _ => rfl
    intro D3 H7 hD3 s7 e7
    refine ⟨D3, bitsOf fs, rfl, SqL.of e7, by rw [List.length_map]; have := k2.few; omega, fun b hb => Nat.lt_of_lt_of_le (bits_lt (fun e he => (k2.each e he).2.1) b hb) (pow_le_256 n8), fun H8 D4 ss s8 hD4 e8 m8 l8 => ?_⟩
    have hp8 := s8 _ _ (s7 _ _ hp6)
    refine ⟨_, rfl, p, C, dx, _, rfl, hp8, t.ins.cl, t.ns, Nat.lt_of_le_of_lt (putF_length _ _ _) (Nat.lt_of_le_of_lt (Nat.succ_le_succ (putF_length _ _ _)) (by decide)), ?_⟩
    generalize hH9 : upd H8 p (.ins C dx (putF "own_sales" (.ref D4) (putF "own_deliveries" (.ref D2) (putF "own_shelves" (.int n) [])))) = H9
    have hp9 : H9 p = some (.ins C dx (putF "own_sales" (.ref D4) (putF "own_deliveries" (.ref D2) (putF "own_shelves" (.int n) [])))) := by rw [← hH9]; exact upd_same
    have b9 : But p H2 H9 := fun b o e hb => by rw [← hH9, upd_ne hb]; exact s8 _ _ (s7 _ _ (b6 _ _ e hb))
    have nD4 : D4 ≠ p := fun z => by
      rw [z, hp8] at e8
      cases e8
    -- self.own_kept
    intro kd hkd
    have nkp : p ≠ kd := ne_of_none hp9 hkd
    refine ⟨_, rfl, p, C, dx, _, rfl, by rw [upd_ne nkp]; exact hp9, t.ins.cl, t.nk, Nat.lt_of_le_of_lt (putF_length _ _ _) (Nat.lt_of_le_of_lt (Nat.succ_le_succ (putF_length _ _ _)) (Nat.lt_of_le_of_lt (Nat.succ_le_succ (Nat.succ_le_succ (putF_length _ _ _))) (by decide))), ?_⟩
    have at9 : ∀ {b : Addr} {o : HO}, H9 b = some o → b ≠ p → (upd (upd H9 kd (.dK [])) p (.ins C dx (sf n D2 D4 kd))) b = some o := fun e hb => by
      rw [upd_ne hb, upd_ne (ne_of_none e hkd)]
      exact e
    have h9D2 : H9 D2 = some (.tup (nv ds)) := by rw [← hH9, upd_ne nD2]; exact s8 _ _ (s7 _ _ e6)
    have h9D4 : H9 D4 = some (.tup (nv ss)) := by rw [← hH9, upd_ne nD4]; exact e8
    have kdH : H kd = none := by
      cases q : H kd with
      | none => rfl
      | some o =>
        have := b9 _ _ (s12 _ _ q) (Ne.symm nkp)
        rw [hkd] at this
        cases this
    have r1 : ∀ x, x ∈ ds ↔ x ∈ bitsOf es := m5
    have r2 : ∀ x, x ∈ ss ↔ x ∈ bitsOf fs := m8
    refine k _ ds ss kd (fun b o e hb => at9 (b9 _ _ (s12 _ _ e) hb) hb) ⟨⟨dx, D2, D4, upd_same, at9 h9D2 nD2, at9 h9D4 nD4⟩, n8, ?_, ?_, ?_, ?_⟩ kdH (by rw [upd_ne (Ne.symm nkp), upd_same]) r1 r2
    · rw [List.length_map] at l5
      have := k1.few
      omega
    · rw [List.length_map] at l8
      have := k2.few
      omega
    · exact fun d hd => bits_lt (fun e he => (k1.each e he).2.1) d ((r1 d).mp hd)
    · exact fun d hd => bits_lt (fun e he => (k2.each e he).2.1) d ((r2 d).mp hd)
end
end K22
/-! rows: step_behind, row_to -/
namespace K22
open PySem PySem.Spec L2
/-- no other lots -/
abbrev NoB : Nat → Prop := fun _ => False
def spStep (K : PySem.W.Frag) (C : Addr) : Sp := fun vs H Q _ => ∃ (p : Addr) (n : Nat) (ds ss : List Nat) (kd : Addr) (bits o : Nat), vs = [.ref p, .int bits, .int o] ∧ StoreAt C H p n ds ss kd ∧
  (∀ H', Same H H' → (∀ d ∈ ds, ¬ LayOk bits o d) → (∀ s ∈ ss, ¬ OffOk bits o s) → Q .non H') ∧
  (∀ (H' : Hp) (t q : Addr) (k : Nat), Same H H' → H' q = some (.tup [.ref t, .int k]) → ((k ∈ ds ∧ LayOk bits o k) ∨ (k ∈ ss ∧ OffOk bits o k)) → Q (.ref q) H')
def spRowTo (K : PySem.W.Frag) (C : Addr) : Sp := fun vs H Q _ => ∃ (p : Addr) (n : Nat) (ds ss : List Nat) (kd : Addr) (bits : Nat), vs = [.ref p, .int bits] ∧ StoreAt C H p n ds ss kd ∧ bits < 2 ^ n ∧
  (∀ H', Same H H' → ¬ Cl ds ss NoB bits → Q .non H') ∧ (∀ (H' : Hp) (q : Addr), Same H H' → Cl ds ss NoB bits → Q (.ref q) H')
theorem int_zero (k : Nat) : decide (V.int (k : Int) = V.int 0) = decide (k = 0) := by
  by_cases h : k = 0
  · subst h
    rfl
  · rw [decide_eq_false h]
    exact decide_eq_false fun z => h (by have := V.int.inj z; omega)
section
variable {P : Program} {w : World} {K : PySem.W.Frag} {mg : Str → Option Value} {base : Heap} {C : Addr}
theorem sc31 : FnScope ["store", "bits", "opened", "position", "kind"] ["store", "bits", "opened"] (defScope (top 31)) := ⟨rfl, rfl, rfl, by decide +kernel, rfl, by decide +kernel, by decide +kernel⟩
theorem ok_step_behind (T : Txt mg) (t : StTxt K mg C) (a : IsAt K mg "step_behind" 31 ["store", "bits", "opened"]) : C8.Cal P w K mg base 1 "step_behind" (spStep K C) [] := by
  obtain ⟨f, fd, a⟩ := a
  refine a.cal sc31 (fun vs H Q E h => ?_) (fun cdv A outer s H vs Q E hr h => ?_)
  · obtain ⟨p, n, ds, ss, kd, bits, o, rfl, _⟩ := h
    rfl
  · obtain ⟨p, n, ds, ss, kd, bits, o, rfl, st, k1, k2⟩ := h
    obtain ⟨dx, D, S, hp, hD, hS⟩ := st.ob
    refine ⟨_, pss_cons (ps_for PassesOwn.never rfl (pi_enumT (by rfl) T.enumerate (pa_cons (pe_fld (pv 0) rfl) pa_nil)) (pg_tup rfl (pgs_cons (pg_name (i := 3) sc31.nd rfl (Or.inl rfl)) (pgs_cons (pg_name (i := 4) sc31.nd rfl (Or.inl rfl)) pgs_nil)))
        (pss_one (ps_if (PW.pt (pw_and (pt_cmpR op_ne (pe_op op_and (pv 4) (pv 2)) pe_int (nomark _)) (pw_and1 (pt_cmpR op_eq (pe_op op_and (pe_op op_and (pv 4) (pv 2)) (pe_un un_inv (pv 1))) pe_int (nomark _)))))
          (pss_one (ps_ret (pe_tup (pa_cons (pe_tup (pa_cons pe_str (pa_cons (pv 3) pa_nil))) (pa_cons (pv 4) pa_nil))))) pss_nil)))
      (pss_cons (ps_for PassesOwn.never rfl (pi_enumT (by rfl) T.enumerate (pa_cons (pe_fld (pv 0) rfl) pa_nil)) (pg_tup rfl (pgs_cons (pg_name (i := 3) sc31.nd rfl (Or.inl rfl)) (pgs_cons (pg_name (i := 4) sc31.nd rfl (Or.inl rfl)) pgs_nil)))
        (pss_one (ps_if (PW.pt (pw_and (pt_cmpR op_ne (pe_op op_and (pv 4) (pv 2)) pe_int (nomark _)) (pw_and1 (pt_cmpR op_eq (pe_op op_and (pe_op op_and (pv 4) (pv 2)) (pv 1)) pe_int (nomark _)))))
          (pss_one (ps_ret (pe_tup (pa_cons (pe_tup (pa_cons pe_str (pa_cons (pv 3) pa_nil))) (pa_cons (pv 4) pa_nil))))) pss_nil)))
      (pss_one (ps_ret pe_non))), ?_⟩
    refine ⟨_, rfl, p, C, dx, _, _, rfl, hp, t.ins.cl, t.nd, sf_deliveries _ _ _ _, D, nv ds, rfl, SqT.of hD,
      for_enumT (fun i σ H' => ∃ u v, σ = [some (.ref p), some (.int bits), some (.int o), u, v] ∧ Same H H' ∧ ∀ d ∈ ds.take i, ¬ LayOk bits o d) ⟨none, none, rfl, Same.refl H, fun d h => nomatch h⟩ (fun i σ H' _ ⟨_, _, _, s1, _⟩ => SqT.of (s1 _ _ hD)) ?_ ?_⟩
    · rintro i x σ H' T0 hx ⟨u, v, rfl, s1, no⟩ hT
      obtain ⟨k, hk, rfl⟩ := nv_get hx
      have s2 : Same H (upd H' T0 (.tup [.int (i : Nat), .int (k : Nat)])) := s1.trans (Same.new hT)
      have et : ds.take (i + 1) = ds.take i ++ [k] := by rw [List.take_add_one, hk]; rfl
      refine ⟨T0, _, rfl, SqT.of upd_same, rfl, _, _, rfl, _, _, rfl, rfl, ?_⟩
      refine ⟨_, rfl, _, rfl, _, _, rfl, rfl, rfl, _, rfl, ?_⟩
      have e1 : (!decide (V.int (Builtin.bitAnd (k : Int) (o : Int)) = V.int 0)) = !decide (k &&& o = 0) := by rw [band, int_zero]
      rw [e1]
      by_cases z : k &&& o = 0
      · rw [decide_eq_true z]
        refine iteF (iteF ⟨_, _, rfl, s2, fun d hd => ?_⟩)
        rw [et] at hd
        rcases List.mem_append.mp hd with h | h
        · exact no d h
        · rw [List.mem_singleton.mp h]
          exact fun l => l.1 z
      · rw [decide_eq_false z]
        refine iteT ⟨_, rfl, _, rfl, _, _, rfl, rfl, _, rfl, _, rfl, _, _, rfl, rfl, rfl, _, rfl, ?_⟩
        have e2 : decide (V.int (Builtin.bitAnd (Builtin.bitAnd (k : Int) (o : Int)) (Builtin.bitNot (bits : Int))) = V.int 0) = decide (lessB (k &&& o) bits = 0) := by rw [band, bless, int_zero]
        rw [e2]
        by_cases z2 : lessB (k &&& o) bits = 0
        · rw [decide_eq_true z2]
          refine iteT ⟨_, rfl, by show 2 ≤ sizeLine; decide, fun t0 ht => ⟨_, rfl, by show 2 ≤ sizeLine; decide, fun q hq => ?_⟩⟩
          exact k2 _ t0 q k (s2.trans ((Same.new ht).trans (Same.new hq))) upd_same (.inl ⟨List.mem_of_getElem? hk, z, z2⟩)
        · rw [decide_eq_false z2]
          refine iteF ⟨_, _, rfl, s2, fun d hd => ?_⟩
          rw [et] at hd
          rcases List.mem_append.mp hd with h | h
          · exact no d h
          · rw [List.mem_singleton.mp h]
            exact fun l => z2 l.2
    · rintro σ H1 ⟨u, v, rfl, s1, no⟩
      rw [nv_length, List.take_length] at no
      refine ⟨_, rfl, p, C, dx, _, _, rfl, s1 _ _ hp, t.ins.cl, t.ns, sf_sales _ _ _ _, S, nv ss, rfl, SqT.of (s1 _ _ hS),
        for_enumT (fun i σ H' => ∃ u v, σ = [some (.ref p), some (.int bits), some (.int o), u, v] ∧ Same H H' ∧ ∀ d ∈ ss.take i, ¬ OffOk bits o d) ⟨u, v, rfl, s1, fun d h => nomatch h⟩ (fun i σ H' _ ⟨_, _, _, s1, _⟩ => SqT.of (s1 _ _ hS)) ?_ ?_⟩
      · rintro i x σ H' T0 hx ⟨u, v, rfl, s1, no2⟩ hT
        obtain ⟨k, hk, rfl⟩ := nv_get hx
        have s2 : Same H (upd H' T0 (.tup [.int (i : Nat), .int (k : Nat)])) := s1.trans (Same.new hT)
        have et : ss.take (i + 1) = ss.take i ++ [k] := by rw [List.take_add_one, hk]; rfl
        refine ⟨T0, _, rfl, SqT.of upd_same, rfl, _, _, rfl, _, _, rfl, rfl, ?_⟩
        refine ⟨_, rfl, _, rfl, _, _, rfl, rfl, rfl, _, rfl, ?_⟩
        have e1 : (!decide (V.int (Builtin.bitAnd (k : Int) (o : Int)) = V.int 0)) = !decide (k &&& o = 0) := by rw [band, int_zero]
        rw [e1]
        by_cases z : k &&& o = 0
        · rw [decide_eq_true z]
          refine iteF (iteF ⟨_, _, rfl, s2, fun d hd => ?_⟩)
          rw [et] at hd
          rcases List.mem_append.mp hd with h | h
          · exact no2 d h
          · rw [List.mem_singleton.mp h]
            exact fun l => l.1 z
        · rw [decide_eq_false z]
          refine iteT ⟨_, rfl, _, rfl, _, _, rfl, rfl, _, rfl, _, _, rfl, rfl, rfl, _, rfl, ?_⟩
          have e2 : decide (V.int (Builtin.bitAnd (Builtin.bitAnd (k : Int) (o : Int)) (bits : Int)) = V.int 0) = decide ((k &&& o) &&& bits = 0) := by rw [band, band, int_zero]
          rw [e2]
          by_cases z2 : (k &&& o) &&& bits = 0
          · rw [decide_eq_true z2]
            refine iteT ⟨_, rfl, by show 2 ≤ sizeLine; decide, fun t0 ht => ⟨_, rfl, by show 2 ≤ sizeLine; decide, fun q hq => ?_⟩⟩
            exact k2 _ t0 q k (s2.trans ((Same.new ht).trans (Same.new hq))) upd_same (.inr ⟨List.mem_of_getElem? hk, z, z2⟩)
          · rw [decide_eq_false z2]
            refine iteF ⟨_, _, rfl, s2, fun d hd => ?_⟩
            rw [et] at hd
            rcases List.mem_append.mp hd with h | h
            · exact no2 d h
            · rw [List.mem_singleton.mp h]
              exact fun l => z2 l.2
      · rintro σ H2 ⟨u, v, rfl, s2, no2⟩
        rw [nv_length, List.take_length] at no2
        exact k1 H2 s2 no no2
theorem sc32 : FnScope ["store", "bits", "opened", "found", "step"] ["store", "bits"] (defScope (top 32)) := ⟨rfl, rfl, rfl, by decide +kernel, rfl, by decide +kernel, by decide +kernel⟩
theorem full (n : Nat) : (1 : Int) * (2 : Int) ^ ((n : Int).toNat) - 1 = ((2 ^ n - 1 : Nat) : Int) := by
  rw [bpow, Nat.one_shiftLeft]
  have := Nat.two_pow_pos n
  omega
theorem ok_row_to (t : StTxt K mg C) (a : IsAt K mg "row_to" 32 ["store", "bits"]) (c1 : C8.Cal P w K mg base 1 "step_behind" (spStep K C) []) : C8.Cal P w K mg base 2 "row_to" (spRowTo K C) [] := by
  obtain ⟨f, fd, a⟩ := a
  refine a.cal sc32 (fun vs H Q E h => ?_) (fun cdv A outer s H vs Q E hr h => ?_)
  · obtain ⟨p, n, ds, ss, kd, bits, rfl, _⟩ := h
    rfl
  · obtain ⟨p, n, ds, ss, kd, bits, rfl, st, hb, k1, k2⟩ := h
    obtain ⟨dx, D, S, hp, hD, hS⟩ := st.ob
    have p256 : 2 ^ n ≤ 256 := pow_le_256 st.n8
    have n8 := st.n8
    refine ⟨_, pss_cons (ps_par (i := 2) (j := 3) rfl sc32.nd rfl rfl (by decide) rfl rfl (pa_cons (pe_op op_sub (pe_op op_shl pe_int (pe_fld (pv 0) rfl)) pe_int) (pa_cons (pe_lst pa_nil) pa_nil)) (by rfl))
      (pss_cons (ps_while PassesOwn.never (pt_cmpR op_ne (pe_op op_and (pv 1) (pv 2)) pe_int (nomark _))
        (pss_cons (ps_set (i := 4) sc32.nd rfl (Or.inl rfl) (C8.pe_c c1 hr (by decide) (by rfl) (pa_cons (pv 0) (pa_cons (pv 1) (pa_cons (pv 2) pa_nil)))))
        (pss_cons (ps_if (pt_cmp (pc_isN (pv 4))) (pss_one (ps_ret pe_non)) pss_nil)
        (pss_cons (ps_set (i := 3) sc32.nd rfl (Or.inl rfl) (pe_op op_cat (pe_lst (pa_cons (pe_ix ix_tup (pv 4) pe_int (fun _ _ => rfl)) pa_nil)) (pv 3)))
        (pss_one (ps_set (i := 2) sc32.nd rfl (Or.inl rfl) (pe_op op_and (pv 2) (pe_un un_inv (pe_ix ix_tup (pv 4) pe_int (fun _ _ => rfl))))))))))
      (pss_one (ps_ret (pv 3)))), ?_⟩
    refine ⟨_, rfl, p, C, dx, _, _, rfl, hp, t.ins.cl, t.nh, sf_shelves _ _ _ _, _, _, rfl, rfl, ⟨by omega, by omega, by decide⟩, _, _, rfl, rfl, Nat.zero_le _, fun f0 hf0 => ⟨_, _, rfl, ?_⟩⟩
    have e0 := full n
    -- the while
    refine ⟨fun m σ H' => ∃ (o : Nat) (f : Addr) (xs : List V) (u : Option V), m = o ∧ σ = [some (.ref p), some (.int (bits : Nat)), some (.int (o : Nat)), some (.ref f), u] ∧ Same H H' ∧ o < 2 ^ n ∧ H' f = some (.lst xs) ∧ xs.length + o ≤ 256 ∧ ((∃ x, Cl ds ss NoB x ∧ Alike x bits o) → Cl ds ss NoB bits),
      ⟨2 ^ n - 1, 2 ^ n - 1, f0, [], none, rfl, ?_, Same.new hf0, ?_, upd_same, ?_, ?_⟩, ?_⟩
    · show [some (V.ref p), some (V.int bits), some (V.int ((1 : Int) * (2 : Int) ^ ((n : Int).toNat) - 1)), some (V.ref f0), none] = _
      rw [e0]
    · have := Nat.two_pow_pos n
      omega
    · simp only [List.length_nil]
      omega
    · rintro ⟨x, c, al⟩
      have lx : x < 2 ^ n := c.lt st.dn fun _ h => h.elim
      rw [← alike_full lx hb al]
      exact c
    · rintro m σ H1 ⟨o, f, xs, u, rfl, rfl, s1, lo, hf, lxs, back⟩
      refine ⟨_, rfl, _, rfl, _, _, rfl, rfl, rfl, _, rfl, ?_⟩
      have e1 : (!decide (V.int (Builtin.bitAnd (bits : Int) (m : Int)) = V.int 0)) = !decide (bits &&& m = 0) := by rw [band, int_zero]
      rw [e1]
      by_cases z : bits &&& m = 0
      · rw [decide_eq_true z]
        refine iteF ⟨_, rfl, ?_⟩
        exact k2 H1 f s1 (back (end_back z))
      · rw [decide_eq_false z]
        refine iteT ⟨fun σ' H' => ∃ m', m' < m ∧ ∃ (o : Nat) (f : Addr) (xs : List V) (u : Option V), m' = o ∧ σ' = [some (.ref p), some (.int (bits : Nat)), some (.int (o : Nat)), some (.ref f), u] ∧ Same H H' ∧ o < 2 ^ n ∧ H' f = some (.lst xs) ∧ xs.length + o ≤ 256 ∧ ((∃ x, Cl ds ss NoB x ∧ Alike x bits o) → Cl ds ss NoB bits), fun _ _ h => h, ?_⟩
        refine ⟨_, rfl, _, rfl, _, rfl, p, n, ds, ss, kd, bits, m, rfl, st.same s1, fun H2 s2 noD noS => ?_, fun H2 t0 q k s2 hq hk => ?_⟩
        · -- step is None
          refine ⟨_, rfl, _, rfl, ?_⟩
          refine iteT ?_
          exact k1 H2 (s1.trans s2) fun c => z (stuck (fun _ h => h) noD noS c rfl)
        · refine ⟨_, rfl, _, rfl, ?_⟩
          refine iteF ?_
          have nk : k &&& m ≠ 0 := hk.elim (fun h => h.2.1) fun h => h.2.1
          have sm := lessB_smaller nk
          -- found = [step[0]] + found
          refine ⟨_, rfl, q, _, 0, _, rfl, rfl, SqT.of hq, rfl, by show 1 ≤ sizeLine; decide, fun l hl => ?_⟩
          have hf2 : (upd H2 l (.lst [.ref t0])) f = some (.lst xs) := (Same.new hl) _ _ (s2 _ _ hf)
          refine ⟨_, rfl, l, f, _, xs, rfl, rfl, upd_same, hf2, ?_, fun g hg => ?_⟩
          · show 1 + xs.length ≤ sizeLine
            exact Nat.le_trans (by omega : 1 + xs.length ≤ 1000) (by decide)
          · have hq3 : (upd (upd H2 l (.lst [.ref t0])) g (.lst ([.ref t0] ++ xs))) q = some (.tup [.ref t0, .int k]) := (Same.new hg) _ _ ((Same.new hl) _ _ hq)
            refine ⟨_, rfl, _, rfl, q, _, 1, _, rfl, rfl, SqT.of hq3, rfl, _, rfl, _, _, rfl, rfl, ?_⟩
            refine ⟨lessB m k, sm, lessB m k, g, .ref t0 :: xs, some (.ref q), rfl, ?_, s1.trans (s2.trans ((Same.new hl).trans (Same.new hg))), Nat.lt_trans sm lo, upd_same, ?_, fun h => back ?_⟩
            · rw [← bless]
              rfl
            · rw [List.length_cons]
              omega
            · rcases hk with ⟨kd1, kl⟩ | ⟨kd1, kl⟩
              · exact lay_back kd1 kl h
              · exact off_back kd1 kl h
end
end K22
/-! data of ints and rows; led_on, closed_from. -/
namespace K22
open PySem PySem.Spec L2
/-! ### data -/
/-- a list of ints as data -/
abbrev intsD (l : List Int) : PyData := .list (l.map .int)
theorem intsD_lay : ∀ l : List Int, PyData.canLayAll0 (l.map PyData.int) = true
  | [] => by simp [PyData.canLayAll0]
  | z :: l => by simp [PyData.canLayAll0, PyData.canLay0, intsD_lay l]
theorem intsD_depth : ∀ l : List Int, PyData.depthAll (l.map PyData.int) = 0
  | [] => by simp [PyData.depthAll]
  | z :: l => by simp [PyData.depthAll, PyData.depth, intsD_depth l]
theorem intsD_shaped (l : List Int) : SeqAt.shaped (intsD l) = true := by
  have h := intsD_depth l
  show ((intsD l).canLay0 && decide ((intsD l).depth ≤ 64)) = true
  rw [Bool.and_eq_true]
  exact ⟨by simp only [PyData.canLay0]; exact intsD_lay l, decide_eq_true (by simp only [PyData.depth]; omega)⟩
theorem intsD_eqvAll : ∀ l m : List Int, PyData.eqvAll (l.map PyData.int) (m.map PyData.int) = decide (l = m)
  | [], [] => by simp [PyData.eqvAll]
  | [], _ :: _ => by simp [PyData.eqvAll]
  | _ :: _, [] => by simp [PyData.eqvAll]
  | x :: l, y :: m => by
    have ih := intsD_eqvAll l m
    simp only [List.map_cons, PyData.eqvAll, PyData.eqv, ih]
    by_cases h : x = y
    · subst h
      by_cases h2 : l = m
      · subst h2
        simp
      · simp [h2]
    · have q : (x == y) = false := beq_eq_false_iff_ne.mpr h
      rw [q, Bool.false_and]
      exact (decide_eq_false fun z => h (List.cons.inj z).1).symm
theorem intsD_eqv (l m : List Int) : PyData.eqv (intsD l) (intsD m) = decide (l = m) := by
  rw [← intsD_eqvAll]
  simp only [PyData.eqv]
/-- a list of lists of ints as data -/
abbrev rowsD (ls : List (List Int)) : PyData := .list (ls.map intsD)
theorem rowsD_lay : ∀ ls : List (List Int), PyData.canLayAll0 (ls.map intsD) = true
  | [] => by simp [PyData.canLayAll0]
  | z :: ls => by simp [PyData.canLayAll0, PyData.canLay0, intsD_lay z, rowsD_lay ls]
theorem rowsD_depth : ∀ ls : List (List Int), PyData.depthAll (ls.map intsD) ≤ 1
  | [] => by simp [PyData.depthAll]
  | z :: ls => by
    have h1 := rowsD_depth ls
    have h2 := intsD_depth z
    simp only [List.map_cons, PyData.depthAll, PyData.depth]
    omega
theorem rowsD_shaped (ls : List (List Int)) : SeqAt.shaped (rowsD ls) = true := by
  have h := rowsD_depth ls
  show ((rowsD ls).canLay0 && decide ((rowsD ls).depth ≤ 64)) = true
  rw [Bool.and_eq_true]
  exact ⟨by simp only [PyData.canLay0]; exact rowsD_lay ls, decide_eq_true (by simp only [PyData.depth]; omega)⟩
theorem rowsD_eqvAll : ∀ l m : List (List Int), PyData.eqvAll (l.map intsD) (m.map intsD) = decide (l = m)
  | [], [] => by simp [PyData.eqvAll]
  | [], _ :: _ => by simp [PyData.eqvAll]
  | _ :: _, [] => by simp [PyData.eqvAll]
  | x :: l, y :: m => by
    have ih := rowsD_eqvAll l m
    have ih2 := intsD_eqv x y
    rw [List.map_cons, List.map_cons, PyData.eqvAll, ih, ih2]
    by_cases h : x = y
    · subst h
      by_cases h2 : l = m
      · subst h2
        simp
      · simp [h2]
    · rw [decide_eq_false h, Bool.false_and]
      exact (decide_eq_false fun z => h (List.cons.inj z).1).symm
theorem rowsD_eqv (l m : List (List Int)) : PyData.eqv (rowsD l) (rowsD m) = decide (l = m) := by
  rw [← rowsD_eqvAll]
  simp only [PyData.eqv]
theorem rows_any (ls : List (List Int)) (a : List Int) : ((ls.map intsD).any fun z => PyData.eqv z (intsD a)) = decide (a ∈ ls) := by
  rw [List.any_map]
  induction ls with
  | nil => exact (decide_eq_false (List.not_mem_nil)).symm
  | cons x ls ih =>
    rw [List.any_cons, ih]
    show (PyData.eqv (intsD x) (intsD a) || _) = _
    rw [intsD_eqv]
    by_cases h : x = a
    · subst h
      rw [decide_eq_true rfl, Bool.true_or]
      exact (decide_eq_true List.mem_cons_self).symm
    · rw [decide_eq_false h, Bool.false_or]
      by_cases h2 : a ∈ ls
      · rw [decide_eq_true h2]
        exact (decide_eq_true (List.mem_cons_of_mem _ h2)).symm
      · rw [decide_eq_false h2]
        exact (decide_eq_false fun z => (List.mem_cons.mp z).elim (fun e => h e.symm) h2).symm
theorem zs_nil {l : List Nat} : zs l = [] ↔ l = [] := by
  unfold zs
  exact List.map_eq_nil_iff
theorem nv_flat : ∀ l : List Nat, (nv l).all flatV = true
  | [] => rfl
  | x :: l => by
    show (true && (nv l).all flatV) = true
    rw [nv_flat l]
    rfl
theorem nv_in (x : Nat) : ∀ l : List Nat, inV (.int (x : Int)) (nv l) = decide (x ∈ l)
  | [] => rfl
  | y :: l => by
    show (((y : Int) == (x : Int)) || inV (.int (x : Int)) (nv l)) = _
    rw [nv_in x l]
    by_cases h : y = x
    · subst h
      rw [beq_self_eq_true, Bool.true_or]
      exact (decide_eq_true List.mem_cons_self).symm
    · have q : ((y : Int) == (x : Int)) = false := beq_eq_false_iff_ne.mpr fun z => h (Int.ofNat.inj z)
      rw [q, Bool.false_or]
      by_cases h2 : x ∈ l
      · rw [decide_eq_true h2]
        exact (decide_eq_true (List.mem_cons_of_mem _ h2)).symm
      · rw [decide_eq_false h2]
        exact (decide_eq_false fun z => (List.mem_cons.mp z).elim (fun e => h e.symm) h2).symm
/-! ### comprehensions over a list or a tuple -/
theorem map_lc {K : PySem.W.Frag} {tl : TE} {a : Addr} {xs : List V} {te : TE} {vs : List Nat} {j : Nat} {σ : L2.St} {H : Hp} {Q : VK} (hi : ∀ R : V → Hp → Prop, R (.ref a) H → tl σ H R) (hq : Sq K H a xs) (hl : xs.length ≤ 10000) (hw : ∀ x, wipe ((wipe σ vs).set j (some x)) vs = wipe σ vs)
    (R : Addr → Nat → V → Hp → Prop) (mono : ∀ D i y H1 H2, But D H1 H2 → R D i y H1 → R D i y H2)
    (elem : ∀ (D : Addr) (i : Nat) (x : V) (H' : Hp) (Q2 : VK), xs[i]? = some x → Same H H' → H' D ≠ none → (∀ y H4, Same H' H4 → R D i y H4 → Q2 y H4) → te ((wipe σ vs).set j (some x)) H' Q2)
    (hd : ∀ (D : Addr) (H' : Hp) (ys : List V), H D = none → Same H H' → H' D = some (.lst ys) → ys.length = xs.length → (∀ i y, ys[i]? = some y → R D i y H') → Q (.ref D) H') :
    tLc (iSeq K tl) (gName j) tYes te vs σ H Q := by
  refine hi _ ⟨a, rfl, ?_⟩
  rcases hq with h | h
  · exact .inl ⟨⟨_, h⟩, fun D hD => map_it (j := j) (te := te) (vs := vs) (σ := σ) (Qd := fun H' => Q (.ref D) H') (walk_list (K := K) (a := a) (xs := xs)) hD (fun H' s => s.seq h) hl hw (R D) (mono D) (elem D) (hd D · · hD)⟩
  · exact .inr ⟨⟨_, h⟩, fun D hD => map_it (j := j) (te := te) (vs := vs) (σ := σ) (Qd := fun H' => Q (.ref D) H') (walk_tup (K := K) (a := a) (xs := xs)) hD (fun H' s => s.sqT h) hl hw (R D) (mono D) (elem D) (hd D · · hD)⟩
/-! ### led_on -/
def spLedOn (K : PySem.W.Frag) (C : Addr) : Sp := fun vs H Q _ => ∃ (p : Addr) (n : Nat) (ds ss : List Nat) (kd : Addr) (b : Nat), vs = [.ref p, .int b] ∧ StoreAt C H p n ds ss kd ∧
  ∀ (H' : Hp) (q : Addr), Same H H' → H q = none → H' q = some (.lst (nv (ds.map (b ||| ·) ++ ss.map (lessB b ·)))) → Q (.ref q) H'
section
variable {P : Program} {w : World} {K : PySem.W.Frag} {mg : Str → Option Value} {base : Heap} {C : Addr}
theorem sc35 : FnScope ["store", "bits", "kind"] ["store", "bits"] (defScope (top 35)) := ⟨rfl, rfl, rfl, by decide +kernel, rfl, by decide +kernel, by decide +kernel⟩
theorem ok_led_on (t : StTxt K mg C) (a : IsAt K mg "led_on" 35 ["store", "bits"]) : C8.Cal P w K mg base 1 "led_on" (spLedOn K C) [] := by
  obtain ⟨f, fd, a⟩ := a
  refine a.cal sc35 (fun vs H Q E h => ?_) (fun cdv A outer s H vs Q E hr h => ?_)
  · obtain ⟨p, n, ds, ss, kd, bits, rfl, _⟩ := h
    rfl
  · obtain ⟨p, n, ds, ss, kd, b, rfl, st, k⟩ := h
    obtain ⟨dx, D, S, hp, hD, hS⟩ := st.ob
    have dl := st.dl
    have sl := st.sl
    refine ⟨_, pss_one (ps_ret (pe_op op_cat
      (pe_lc (own := [("kind", 2)]) (by rfl) sc35.nd (pi_seq (pe_fld (pv 0) rfl)) (blkOk_by (N := ["store", "bits", "kind"]) (sc := defScope (top 35)) (by decide +kernel)) (fun _ _ _ _ _ => pg_name (i := 2) sc35.nd rfl (Or.inl rfl)) (fun _ _ _ _ _ => pts_nil)
        (fun _ _ _ _ _ => pe_op op_or (pv 1) (pv 2)))
      (pe_lc (own := [("kind", 2)]) (by rfl) sc35.nd (pi_seq (pe_fld (pv 0) rfl)) (blkOk_by (N := ["store", "bits", "kind"]) (sc := defScope (top 35)) (by decide +kernel)) (fun _ _ _ _ _ => pg_name (i := 2) sc35.nd rfl (Or.inl rfl)) (fun _ _ _ _ _ => pts_nil)
        (fun _ _ _ _ _ => pe_op op_and (pv 1) (pe_un un_inv (pv 2)))))), ?_⟩
    dsimp only [tRet, tOp]
    refine map_lc (fun R h => ⟨_, rfl, p, C, dx, _, _, rfl, hp, t.ins.cl, t.nd, sf_deliveries _ _ _ _, h⟩) (.inr (SqT.of hD)) (by rw [nv_length]; omega) (fun _ => rfl)
      (fun _ i y _ => ∃ d, ds[i]? = some d ∧ y = .int ((b ||| d : Nat) : Int)) (fun _ _ _ _ _ _ h => h) ?_ ?_
    · intro D i x H' Q2 hx s1 _ kk
      obtain ⟨d, hd, rfl⟩ := nv_get hx
      refine ⟨_, rfl, _, rfl, _, _, rfl, rfl, ?_⟩
      exact kk _ H' (Same.refl _) ⟨d, hd, by show V.int (Builtin.bitOr _ _) = _; rw [bor]⟩
    · intro D1 H1 ys hD1 s1 e1 ly hy
      rw [nv_length] at ly
      have ey : ys = nv (ds.map (b ||| ·)) := nv_of (by rw [ly, List.length_map]) fun i y h => by
        obtain ⟨d, h1, h2⟩ := hy i y h
        exact ⟨b ||| d, by rw [List.getElem?_map, h1]; rfl, h2⟩
      subst ey
      refine map_lc (fun R h => ⟨_, rfl, p, C, dx, _, _, rfl, s1 _ _ hp, t.ins.cl, t.ns, sf_sales _ _ _ _, h⟩) (.inr (SqT.of (s1 _ _ hS))) (by rw [nv_length]; omega) (fun _ => rfl)
        (fun _ i y _ => ∃ d, ss[i]? = some d ∧ y = .int ((lessB b d : Nat) : Int)) (fun _ _ _ _ _ _ h => h) ?_ ?_
      · intro D i x H' Q2 hx s2 _ kk
        obtain ⟨d, hd, rfl⟩ := nv_get hx
        refine ⟨_, rfl, _, rfl, _, rfl, _, _, rfl, rfl, ?_⟩
        exact kk _ H' (Same.refl _) ⟨d, hd, by show V.int (Builtin.bitAnd _ _) = _; rw [bless]⟩
      · intro D2 H2 zs2 hD2 s2 e2 lz hz
        rw [nv_length] at lz
        have ez : zs2 = nv (ss.map (lessB b ·)) := nv_of (by rw [lz, List.length_map]) fun i y h => by
          obtain ⟨d, h1, h2⟩ := hz i y h
          exact ⟨lessB b d, by rw [List.getElem?_map, h1]; rfl, h2⟩
        subst ez
        refine ⟨D1, D2, _, _, rfl, rfl, s2 _ _ e1, e2, ?_, fun q hq => ?_⟩
        · rw [nv_length, nv_length, List.length_map, List.length_map]
          exact Nat.le_trans (by omega : ds.length + ss.length ≤ 1000) (by decide)
        · refine k _ q (s1.trans (s2.trans (Same.new hq))) ((s1.trans s2).free hq) ?_
          rw [upd_same, nv_append]
theorem nv_mem {x : Nat} {l : List Nat} : V.int (x : Int) ∈ nv l ↔ x ∈ l := by
  constructor
  · intro h
    obtain ⟨z, hz, e⟩ := List.mem_map.mp h
    obtain ⟨j, hj, e2⟩ := mem_zs.mp hz
    have e3 : (j : Int) = x := by rw [← e2]; exact V.int.inj e
    rw [← Int.ofNat.inj e3]
    exact hj
  · exact fun h => List.mem_map.mpr ⟨x, mem_zs.mpr ⟨x, h, rfl⟩, rfl⟩
/-- bits that are told in a dict -/
abbrev kfound (fs : List Nat) : List (Key × V) := fs.map fun (b : Nat) => ((Sum.inl (b : Int) : Key), V.bl true)
theorem kfound_val (x : Nat) : ∀ fs : List Nat, valV (kfound fs) (Sum.inl (x : Int)) = if x ∈ fs then some (.bl true) else none
  | [] => by rw [if_neg List.not_mem_nil]; rfl
  | y :: fs => by
    show valV (((Sum.inl (y : Int) : Key), V.bl true) :: kfound fs) _ = _
    by_cases h : y = x
    · subst h
      rw [valV_pos rfl, if_pos List.mem_cons_self]
    · rw [valV_neg fun z => h (Int.ofNat.inj (Sum.inl.inj z)), kfound_val x fs]
      by_cases h2 : x ∈ fs
      · rw [if_pos h2, if_pos (List.mem_cons_of_mem _ h2)]
      · rw [if_neg h2, if_neg fun z => (List.mem_cons.mp z).elim (fun e => h e.symm) h2]
theorem kfound_keys (fs : List Nat) : ((kfound fs).map fun kv => kV kv.1) = nv fs := by
  unfold kfound nv zs
  rw [List.map_map, List.map_map]
  rfl
theorem filter_nv (fs : List Nat) : ∀ ls : List Nat, (nv ls).filter (fun v => !decide (v ∈ nv fs)) = nv (ls.filter fun x => !decide (x ∈ fs))
  | [] => rfl
  | x :: ls => by
    show (V.int (x : Int) :: nv ls).filter _ = _
    by_cases h : x ∈ fs
    · rw [List.filter_cons_of_neg (by rw [decide_eq_true (nv_mem.mpr h)]; exact Bool.false_ne_true), List.filter_cons_of_neg (by rw [decide_eq_true h]; exact Bool.false_ne_true)]
      exact filter_nv fs ls
    · rw [List.filter_cons_of_pos (by rw [decide_eq_false fun z => h (nv_mem.mp z)]; rfl), List.filter_cons_of_pos (by rw [decide_eq_false h]; rfl), filter_nv fs ls]
      rfl
/-! ### closed_from -/
def spClosedFrom (K : PySem.W.Frag) (C : Addr) : Sp := fun vs H Q _ => ∃ (p : Addr) (n : Nat) (ds ss : List Nat) (kd a : Addr) (bs : List Nat), vs = [.ref p, .ref a] ∧ StoreAt C H p n ds ss kd ∧ SqL K H a (nv bs) ∧ bs.length ≤ 300 ∧ (∀ b ∈ bs, b < 2 ^ n) ∧
  ∀ (H' : Hp) (q : Addr) (fs : List Nat), Same H H' → H q = none → H' q = some (.lst (nv fs)) → fs.Nodup → (∀ x, x ∈ fs ↔ Cl ds ss (· ∈ bs) x) → fs.length ≤ 256 → Q (.ref q) H'
theorem sc36 : FnScope ["store", "some", "found", "waiting", "bits", "one"] ["store", "some"] (defScope (top 36)) := ⟨rfl, rfl, rfl, by decide +kernel, rfl, by decide +kernel, by decide +kernel⟩
theorem ok_closed_from (T : Txt mg) (a : IsAt K mg "closed_from" 36 ["store", "some"]) (c1 : C8.Cal P w K mg base 1 "led_on" (spLedOn K C) []) : C8.Cal P w K mg base 2 "closed_from" (spClosedFrom K C) [] := by
  obtain ⟨f, fd, a⟩ := a
  refine a.cal sc36 (fun vs H Q E h => ?_) (fun cdv A outer s H vs Q E hr h => ?_)
  · obtain ⟨p, n, ds, ss, kd, a, bs, rfl, _⟩ := h
    rfl
  · obtain ⟨p, n, ds, ss, kd, a, bs, rfl, st, ha, b300, bn, k⟩ := h
    have hu : A.units + 3 + 64 < cLine := hr.units
    have hu1 : A.units + 3 + 1 < cLine := by omega
    have p256 : 2 ^ n ≤ 256 := pow_le_256 st.n8
    refine ⟨_, pss_cons (ps_asg (pe_tup (pa_cons pe_dnewK (pa_cons (pe_op op_cat (pe_lst (pa_cons pe_int pa_nil)) (pe_callTy call_list_of (by rfl) T.list (by decide +kernel) (pa_cons (pv 1) pa_nil))) pa_nil)))
        (pg_tup (by rfl) (pgs_cons (pg_name (i := 2) sc36.nd rfl (Or.inr rfl)) (pgs_cons (pg_name (i := 3) sc36.nd rfl (Or.inl rfl)) pgs_nil))))
      (pss_cons (ps_while PassesOwn.never (pt_cmpR (op_neD hu) (pv 3) (pe_lst pa_nil) (nomark _))
        (pss_cons (ps_set (i := 4) sc36.nd rfl (Or.inl rfl) (pe_bm0 PySem.F.plainAttrs_list PySem.F.slot_list_pop PySem.F.type_list_pop mt_pop (pv 3)))
        (pss_one (ps_if (pt_cmp (pc_dnotin hu1 (pv 4) (pv 2)))
          (pss_cons (ps_dput hu1 (pv 2) (pv 4) pe_bl (by rfl))
          (pss_one (ps_expr (pe_bm PySem.F.plainAttrs_list PySem.F.slot_list_extend PySem.F.type_list_extend mt_extend (pv 3) (pa_cons
            (pe_lc (own := [("one", 5)]) (by rfl) sc36.nd (pi_list (C8.pe_c c1 hr (by decide) (by rfl) (pa_cons (pv 0) (pa_cons (pv 4) pa_nil)))) (blkOk_by (N := ["store", "some", "found", "waiting", "bits", "one"]) (sc := defScope (top 36)) (by decide +kernel)) (fun _ _ _ _ _ => pg_name (i := 5) sc36.nd rfl (Or.inl rfl))
              (fun _ _ _ _ _ => pts_one (pt_cmp (pc_dnotin hu1 (pv 5) (pv 2)))) (fun _ _ _ _ _ => pv 5)) pa_nil)))))
          pss_nil))))
      (pss_one (ps_ret (pe_callTy (call_list_dK rfl) (by rfl) T.list (by decide +kernel) (pa_cons (pv 2) pa_nil))))), ?_⟩
    intro fd hfd
    refine ⟨Nat.succ_le_succ (Nat.zero_le _), fun l1 hl1 => ⟨_, rfl, a, nv bs, rfl, .inl ((Same.new hfd).trans (Same.new hl1) |>.seq ha), fun l2 hl2 => ⟨l1, l2, [.int 0], nv bs, rfl, rfl, (Same.new hl2) _ _ upd_same, upd_same, ?_, fun wd hwd => ?_⟩⟩⟩
    · rw [nv_length]
      exact Nat.le_trans (by simp only [List.length_cons, List.length_nil]; omega : [V.int 0].length + bs.length ≤ 1000) (by decide)
    generalize hH2 : upd (upd (upd H fd (.dK [])) l1 (.lst [.int 0])) l2 (.lst (nv bs)) = H2 at hwd ⊢
    have s2 : Same H H2 := by
      rw [← hH2]
      exact (Same.new hfd).trans ((Same.new hl1).trans (Same.new hl2))
    have f2 : H2 fd = some (.dK []) := by
      rw [← hH2]
      exact (Same.new hl2) _ _ ((Same.new hl1) _ _ upd_same)
    refine ⟨by show 2 ≤ sizeLine; decide, fun t0 ht0 => ⟨t0, _, rfl, SqT.of upd_same, rfl, _, _, rfl, _, _, rfl, rfl, ?_⟩⟩
    generalize hH3 : upd (upd H2 wd (.lst ([.int 0] ++ nv bs))) t0 (.tup [.ref fd, .ref wd]) = H3
    have s3 : Same H2 H3 := by
      rw [← hH3]
      exact (Same.new hwd).trans (Same.new ht0)
    have w3 : H3 wd = some (.lst (nv (0 :: bs))) := by
      rw [← hH3]
      exact (Same.new ht0) _ _ upd_same
    have nfw : fd ≠ wd := ne_of_none f2 hwd
    have hwH : H wd = none := s2.free hwd
    refine ⟨fun m σ H' => ∃ (fs ws : List Nat) (u v : Option V), σ = [some (.ref p), some (.ref a), some (.ref fd), some (.ref wd), u, v] ∧ Same H H' ∧ H' fd = some (.dK (kfound fs)) ∧ H' wd = some (.lst (nv ws)) ∧ Work ds ss (· ∈ bs) n fs ws ∧ ws.length ≤ 1 + bs.length + 16 * fs.length ∧ m = (256 - fs.length) * 1000 + ws.length,
      ⟨_, [], 0 :: bs, none, none, rfl, s2.trans s3, s3 _ _ f2, w3, Work.start List.mem_cons_self (fun x hx => List.mem_cons_of_mem _ hx) (fun x hx => List.mem_cons.mp hx), by simp only [List.length_cons, List.length_nil]; omega, rfl⟩, ?_⟩
    rintro m σ H4 ⟨fs, ws, u, v, rfl, s4, f4, w4, wk, lw, hm⟩
    have fb : fs.length ≤ 256 := Nat.le_trans (wk.bound st.dn bn) p256
    refine ⟨_, rfl, Nat.zero_le _, fun l hl => ⟨intsD (zs ws), intsD [], dpRow (SqL.of ((Same.new hl) _ _ w4)), dpRow (ns := []) (SqL.of upd_same), intsD_shaped _, intsD_shaped _, _, rfl, ?_⟩⟩
    rw [intsD_eqv]
    have s5 : Same H4 (upd H4 l (.lst [])) := Same.new hl
    generalize hH5 : upd H4 l (.lst []) = H5 at s5 ⊢
    have f5 := s5 _ _ f4
    have w5 := s5 _ _ w4
    by_cases z : ws = []
    · subst z
      rw [decide_eq_true (show zs [] = [] from rfl)]
      refine iteF ⟨_, rfl, fd, _, rfl, f5, fun q hq => ?_⟩
      refine k _ q fs (s4.trans (s5.trans (Same.new hq))) ((s4.trans s5).free hq) ?_ wk.nd wk.done fb
      rw [upd_same, kfound_keys]
    · rw [decide_eq_false fun e => z (zs_nil.mp e)]
      obtain ⟨left, x, rfl⟩ : ∃ left x, ws = left ++ [x] := ⟨ws.dropLast, ws.getLast z, (List.dropLast_concat_getLast z).symm⟩
      refine iteT ⟨fun σ' H' => ∃ m', m' < m ∧ ∃ (fs ws : List Nat) (u v : Option V), σ' = [some (.ref p), some (.ref a), some (.ref fd), some (.ref wd), u, v] ∧ Same H H' ∧ H' fd = some (.dK (kfound fs)) ∧ H' wd = some (.lst (nv ws)) ∧ Work ds ss (· ∈ bs) n fs ws ∧ ws.length ≤ 1 + bs.length + 16 * fs.length ∧ m' = (256 - fs.length) * 1000 + ws.length, fun _ _ h => h, ?_⟩
      rw [List.length_append, List.length_singleton] at lw hm
      refine ⟨_, rfl, .inl ⟨rfl, _, SqL.of w5⟩, wd, nv (left ++ [x]), .int (x : Int), rfl, rfl, w5, ?_, ?_⟩
      · rw [nv_snoc, List.length_append, List.length_singleton, Nat.add_sub_cancel, List.getElem?_append_right (Nat.le_refl _), Nat.sub_self]
        rfl
      rw [nv_snoc, List.dropLast_concat]
      generalize hH6 : upd H5 wd (.lst (nv left)) = H6
      have w6 : H6 wd = some (.lst (nv left)) := by
        rw [← hH6]
        exact upd_same
      have f6 : H6 fd = some (.dK (kfound fs)) := by
        rw [← hH6, upd_ne nfw]
        exact f5
      have s6 : Same H H6 := fun b o e => by
        rw [← hH6, upd_ne (ne_of_none e hwH)]
        exact s5 _ _ (s4 _ _ e)
      refine ⟨_, rfl, _, rfl, fd, _, rfl, DGet.k (k := Sum.inl (x : Int)) f6, _, rfl, ?_⟩
      rw [kfound_val]
      by_cases hx : x ∈ fs
      · rw [if_pos hx]
        exact iteF ⟨_, by rw [hm]; omega, fs, left, _, v, rfl, s6, f6, w6, wk.skip hx, by omega, rfl⟩
      · rw [if_neg hx]
        refine iteT ?_
        have fb2 : (fs ++ [x]).length ≤ 256 := by
          refine Nat.le_trans ((wk.take (more := ds.map (x ||| ·) ++ ss.map (lessB x ·)) hx ?_ ?_ ?_).bound st.dn bn) p256
          · intro y hy
            rcases List.mem_append.mp hy with h | h
            · obtain ⟨d, hd, e⟩ := List.mem_map.mp h
              exact .inl ⟨d, hd, e.symm⟩
            · obtain ⟨d, hd, e⟩ := List.mem_map.mp h
              exact .inr ⟨d, hd, e.symm⟩
          · exact fun d hd => .inr (List.mem_append_left _ (List.mem_map.mpr ⟨d, hd, rfl⟩))
          · exact fun d hd => .inr (List.mem_append_right _ (List.mem_map.mpr ⟨d, hd, rfl⟩))
        -- found[bits] = True
        refine ⟨_, rfl, _, rfl, fd, _, rfl, DPut.k (k := Sum.inl (x : Int)) f6 ?_, ?_⟩
        · rw [List.length_map]
          exact small1000 (by omega)
        rw [putK_new _ (by rw [kfound_val, if_neg hx])]
        have ek : kfound fs ++ [((Sum.inl (x : Int) : Key), V.bl true)] = kfound (fs ++ [x]) := by
          unfold kfound
          rw [List.map_append]
          rfl
        rw [ek]
        generalize hH7 : upd H6 fd (.dK (kfound (fs ++ [x]))) = H7
        have w7 : H7 wd = some (.lst (nv left)) := by
          rw [← hH7, upd_ne (Ne.symm nfw)]
          exact w6
        have f7 : H7 fd = some (.dK (kfound (fs ++ [x]))) := by
          rw [← hH7]
          exact upd_same
        have s7 : Same H H7 := fun b o e => by
          rw [← hH7, upd_ne (ne_of_none e hfd)]
          exact s6 _ _ e
        -- waiting.extend(..)
        refine ⟨_, rfl, .inl ⟨rfl, _, SqL.of w7⟩, _, rfl, _, rfl, p, n, ds, ss, kd, x, rfl, st.same s7, fun H8 q s8 hq e8 => ?_⟩
        refine ⟨q, rfl, ⟨_, SqL.of e8⟩, fun D hD => filt_it (j := 5) (walk_list (K := K) (a := q) (xs := nv (ds.map (x ||| ·) ++ ss.map (lessB x ·)))) hD (fun H' s => s.seq (SqL.of e8)) ?_ (by show 5 < 6; decide) (fun _ => rfl) (fun v => !decide (v ∈ nv (fs ++ [x]))) ?_ ?_⟩
        · have := st.dl
          have := st.sl
          rw [nv_length, List.length_append, List.length_map, List.length_map]
          omega
        · intro i y H9 Q2 hy s9 q2
          obtain ⟨j, hj, rfl⟩ := nv_get hy
          refine ⟨_, rfl, _, rfl, fd, _, rfl, DGet.k (k := Sum.inl (j : Int)) (s9 _ _ (s8 _ _ f7)), ?_⟩
          rw [kfound_val]
          by_cases h : j ∈ fs ++ [x]
          · rw [decide_eq_true (nv_mem.mpr h)] at q2
            rw [if_pos h]
            exact ⟨_, rfl, q2⟩
          · rw [decide_eq_false fun z => h (nv_mem.mp z)] at q2
            rw [if_neg h]
            exact ⟨_, rfl, q2⟩
        · intro H9 s9 e9
          rw [filter_nv] at e9
          generalize hmore : ((ds.map (x ||| ·) ++ ss.map (lessB x ·)).filter fun y => !decide (y ∈ fs ++ [x])) = more at e9
          have lm : more.length ≤ 16 := by
            have h1 := List.length_filter_le (fun y => !decide (y ∈ fs ++ [x])) (ds.map (x ||| ·) ++ ss.map (lessB x ·))
            have h2 := st.dl
            have h3 := st.sl
            rw [hmore, List.length_append, List.length_map, List.length_map] at h1
            omega
          have mm : ∀ y, y ∈ more ↔ (y ∈ ds.map (x ||| ·) ++ ss.map (lessB x ·)) ∧ y ∉ fs ++ [x] := fun y => by
            rw [← hmore, List.mem_filter, Bool.not_eq_true', decide_eq_false_iff_not]
          refine ⟨wd, D, _, _, rfl, rfl, s9 _ _ (s8 _ _ w7), e9, ?_, ?_⟩
          · rw [nv_length, nv_length]
            exact Nat.le_trans (by omega : left.length + more.length ≤ 10000) (by decide)
          · rw [← nv_append]
            refine ⟨_, ?_, fs ++ [x], left ++ more, _, v, rfl, fun b o e => ?_, ?_, upd_same, wk.take hx ?_ ?_ ?_, ?_, rfl⟩
            · rw [hm, List.length_append, List.length_append, List.length_singleton]
              rw [List.length_append, List.length_singleton] at fb2
              omega
            · rw [upd_ne (ne_of_none e hwH)]
              exact s9 _ _ (s8 _ _ (s7 _ _ e))
            · rw [upd_ne nfw]
              exact s9 _ _ (s8 _ _ f7)
            · intro y hy
              rcases List.mem_append.mp ((mm y).mp hy).1 with h | h
              · obtain ⟨d, hd, e⟩ := List.mem_map.mp h
                exact .inl ⟨d, hd, e.symm⟩
              · obtain ⟨d, hd, e⟩ := List.mem_map.mp h
                exact .inr ⟨d, hd, e.symm⟩
            · intro d hd
              by_cases h : (x ||| d) ∈ fs ++ [x]
              · exact .inl h
              · exact .inr ((mm _).mpr ⟨List.mem_append_left _ (List.mem_map.mpr ⟨d, hd, rfl⟩), h⟩)
            · intro d hd
              by_cases h : lessB x d ∈ fs ++ [x]
              · exact .inl h
              · exact .inr ((mm _).mpr ⟨List.mem_append_right _ (List.mem_map.mpr ⟨d, hd, rfl⟩), h⟩)
            · rw [List.length_append, List.length_append, List.length_singleton]
              omega
end
end K22
/-! a def with its promise, to be called by place or by keywords; told_lots, flat_bits, flats_of, flat_lots, are_lots, closure, is_flat. -/
namespace K22
open PySem PySem.Spec L2
theorem cl_nil {ds ss : List Nat} {x : Nat} : Cl ds ss (· ∈ ([] : List Nat)) x ↔ Cl ds ss NoB x :=
  ⟨Cl.mono (fun _ h => h) (fun _ h => h) fun _ h => absurd h List.not_mem_nil, Cl.mono (fun _ h => h) (fun _ h => h) fun _ h => h.elim⟩
/-- a new list of new lots, sorted, all unlike -/
structure NewLots (H H' : Hp) (q : Addr) (es : List (Addr × Nat)) : Prop where
  q0 : H q = none
  at_ : H' q = some (.lst (refs es))
  lot : ∀ e ∈ es, H e.1 = none ∧ H' e.1 = some (.lst (nv (told e.2)))
  sort : es.Pairwise fun x y => zs (told x.2) ≤ zs (told y.2)
  nd : (es.map (·.2)).Nodup
  few : es.length ≤ 256
  ne : ∀ e ∈ es, e.1 ≠ q
/-- what was reckoned of a store -/
def Kept (H : Hp) (kd : Addr) (ds ss : List Nat) : Prop :=
  H kd = some (.dK []) ∨ ∃ (fl : Addr) (fs : List Nat), H kd = some (.dK [((Sum.inr "flats" : Key), .ref fl)]) ∧ H fl = some (.lst (nv fs)) ∧ fs.Nodup ∧ (∀ x, x ∈ fs ↔ Cl ds ss NoB x) ∧ fs.length ≤ 256
/-- the list that is kept is none at x -/
def KNo (H : Hp) (kd x : Addr) : Prop := ∀ fl, H kd = some (.dK [((Sum.inr "flats" : Key), .ref fl)]) → fl ≠ x
/-- what is kept newly is new -/
def NoOf (H H' : Hp) (kd : Addr) : Prop := ∀ x, H x ≠ none → KNo H kd x → KNo H' kd x
theorem Kept.same {H H' : Hp} {kd : Addr} {ds ss : List Nat} (k : Kept H kd ds ss) (s : Same H H') : Kept H' kd ds ss := by
  rcases k with h | ⟨fl, fs, h1, h2, h3⟩
  · exact .inl (s _ _ h)
  · exact .inr ⟨fl, fs, s _ _ h1, s _ _ h2, h3⟩
theorem Kept.dict {H : Hp} {kd : Addr} {ds ss : List Nat} (k : Kept H kd ds ss) : ∃ kvs : List (Key × V), H kd = some (.dK kvs) := by
  rcases k with h | ⟨fl, fs, h1, _⟩
  · exact ⟨_, h⟩
  · exact ⟨_, h1⟩
theorem StoreAt.but {C : Addr} {H H' : Hp} {p : Addr} {n : Nat} {ds ss : List Nat} {kd : Addr} (a : StoreAt C H p n ds ss kd) (k : ∃ kvs : List (Key × V), H kd = some (.dK kvs)) (s : But kd H H') : StoreAt C H' p n ds ss kd := by
  obtain ⟨dx, D, S, h1, h2, h3⟩ := a.ob
  obtain ⟨kvs, hk⟩ := k
  refine ⟨⟨dx, D, S, s _ _ h1 fun z => ?_, s _ _ h2 fun z => ?_, s _ _ h3 fun z => ?_⟩, a.n8, a.dl, a.sl, a.dn, a.sn⟩
  · rw [z, hk] at h1
    cases h1
  · rw [z, hk] at h2
    cases h2
  · rw [z, hk] at h3
    cases h3
theorem But.of {a : Addr} {H H' : Hp} (s : Same H H') : But a H H' := fun b o e _ => s b o e
theorem But.trans {a : Addr} {H1 H2 H3 : Hp} (s : But a H1 H2) (t : But a H2 H3) : But a H1 H3 := fun b o e h => t b o (s b o e h) h
/-- a def with its promise -/
structure AtOk (P : Program) (w : World) (K : PySem.W.Frag) (mg : Str → Option Value) (base : Heap) (k : Nat) (x : Str) (st : Stmt) (ps : List Str) (sp : Sp) : Prop where
  ex : ∃ f fd, At K mg x st ps f fd ∧ FnOk P w K mg base CX0 k f fd ps sp
theorem AtOk.cal {P : Program} {w : World} {K : PySem.W.Frag} {mg : Str → Option Value} {base : Heap} {k : Nat} {x : Str} {st : Stmt} {ps : List Str} {sp : Sp} (c : AtOk P w K mg base k x st ps sp) : C8.Cal P w K mg base k x sp [] := by
  obtain ⟨f, fd, a, F⟩ := c.ex
  exact ⟨f, fd, ps, [], F, a.g, a.F.kp, a.b, .nil⟩
theorem At.atOk {P : Program} {w : World} {K : PySem.W.Frag} {mg : Str → Option Value} {base : Heap} {x : Str} {st : Stmt} {f : Addr} {fd : FuncData} {N ps : List Str} {k : Nat} {sp : Sp} (a : At K mg x st ps f fd) (S : FnScope N ps (defScope st)) (len : ∀ vs H Q E, sp vs H Q E → vs.length = ps.length)
    (body : ∀ (cdv : Value) (A : Around) (outer : List Env) (s : Shared) (H : Hp) (vs : List V) (Q : VK) (E : XK), Room k (A.deeper (PyProof.Rows.envOfC x (defScope st) s.heap.objs.size f cdv)) → sp vs H Q E →
      ∃ t, PSs (cxOf CX0 P w K mg base N x (defScope st) f cdv A outer s H E).nox (defBody st) t ∧ t { nx := fun _ H' => Q .non H', rt := Q } (start N vs) H) : AtOk P w K mg base (k + 1) x st ps sp :=
  ⟨f, fd, a, a.F.ok S len body⟩
def spToldLots (K : PySem.W.Frag) : Sp := fun vs H Q _ => ∃ (a : Addr) (bs : List Nat), vs = [.ref a] ∧ SqL K H a (nv bs) ∧ bs.length ≤ 256 ∧ bs.Nodup ∧
  ∀ (H' : Hp) (q : Addr) (es : List (Addr × Nat)), Same H H' → NewLots H H' q es → (∀ x, x ∈ es.map (·.2) ↔ x ∈ bs) → Q (.ref q) H'
def spFlatBits (C : Addr) : Sp := fun vs H Q _ => ∃ (p : Addr) (n : Nat) (ds ss : List Nat) (kd : Addr), vs = [.ref p] ∧ StoreAt C H p n ds ss kd ∧ Kept H kd ds ss ∧
  ∀ (H' : Hp) (q : Addr) (fs : List Nat), But kd H H' → StoreAt C H' p n ds ss kd → Kept H' kd ds ss → NoOf H H' kd → H q = none → H' q = some (.lst (nv fs)) → fs.Nodup → (∀ x, x ∈ fs ↔ Cl ds ss NoB x) → fs.length ≤ 256 → Q (.ref q) H'
def spFlatLots (C : Addr) : Sp := fun vs H Q _ => ∃ (p : Addr) (n : Nat) (ds ss : List Nat) (kd : Addr), vs = [.ref p] ∧ StoreAt C H p n ds ss kd ∧ Kept H kd ds ss ∧
  ∀ (H' : Hp) (q : Addr) (es : List (Addr × Nat)), But kd H H' → StoreAt C H' p n ds ss kd → Kept H' kd ds ss → NoOf H H' kd → KNo H' kd q → (∀ e ∈ es, KNo H' kd e.1) → NewLots H H' q es → (∀ x, x ∈ es.map (·.2) ↔ Cl ds ss NoB x) → Q (.ref q) H'
/-- lots as they are passed -/
structure LotsIn (K : PySem.W.Frag) (H : Hp) (a : Addr) (n : Nat) (es : List (Addr × List Nat)) : Prop where
  at_ : Sq K H a (refs es)
  few : es.length ≤ 256
  each : ∀ e ∈ es, Sq K H e.1 (nv e.2) ∧ Good e.2 n
theorem LotsIn.same {K : PySem.W.Frag} {H H' : Hp} {a : Addr} {n : Nat} {es : List (Addr × List Nat)} (k : LotsIn K H a n es) (s : Same H H') : LotsIn K H' a n es :=
  ⟨s.sq k.at_, k.few, fun e he => ⟨s.sq (k.each e he).1, (k.each e he).2⟩⟩
def spAreLots (K : PySem.W.Frag) (C : Addr) : Sp := fun vs H Q _ => ∃ (p a : Addr) (n : Nat) (ds ss : List Nat) (kd : Addr) (es : List (Addr × List Nat)), vs = [.ref p, .ref a] ∧ StoreAt C H p n ds ss kd ∧ LotsIn K H a n es ∧ ∀ H', Same H H' → Q (.bl true) H'
def spIsFlat (K : PySem.W.Frag) (C : Addr) : Sp := fun vs H Q _ => ∃ (p a : Addr) (n : Nat) (ds ss : List Nat) (kd : Addr) (l : List Nat), vs = [.ref p, .ref a] ∧ StoreAt C H p n ds ss kd ∧ Sq K H a (nv l) ∧ Good l n ∧
  ∀ (H' : Hp) (b : Bool), Same H H' → (b = true ↔ Cl ds ss NoB (bitsN l)) → Q (.bl b) H'
def spClosure (K : PySem.W.Frag) (C : Addr) : Sp := fun vs H Q _ => ∃ (p a : Addr) (n : Nat) (ds ss : List Nat) (kd : Addr) (es : List (Addr × List Nat)), vs = [.ref p, .ref a] ∧ StoreAt C H p n ds ss kd ∧ LotsIn K H a n es ∧
  ∀ (H' : Hp) (q : Addr) (rs : List (Addr × Nat)), Same H H' → NewLots H H' q rs → (∀ x, x ∈ rs.map (·.2) ↔ Cl ds ss (· ∈ bitsOf es) x) → Q (.ref q) H'
section
variable {P : Program} {w : World} {K : PySem.W.Frag} {mg : Str → Option Value} {base : Heap} {C : Addr}
theorem sc37 : FnScope ["some", "bits"] ["some"] (defScope (top 37)) := ⟨rfl, rfl, rfl, by decide +kernel, rfl, by decide +kernel, by decide +kernel⟩
theorem ok_told_lots (T : Txt mg) (a : IsAt K mg "told_lots" 37 ["some"]) (c1 : C8.Cal P w K mg base 2 "told_lot" spToldLot []) : C8.Cal P w K mg base 3 "told_lots" (spToldLots K) [] := by
  obtain ⟨f, fd, a⟩ := a
  refine a.cal sc37 (fun vs H Q E h => ?_) (fun cdv A outer s H vs Q E hr h => ?_)
  · obtain ⟨a, bs, rfl, _⟩ := h
    rfl
  · obtain ⟨a, bs, rfl, hq, b256, bnd, k⟩ := h
    have hu : A.units + 3 + 64 < cLine := hr.units
    refine ⟨_, pss_one (ps_ret (pe_callB (cr_sortL hu) (by rfl) T.sorted (by decide +kernel) (pa_cons
      (pe_lc (own := [("bits", 1)]) (by rfl) sc37.nd (pi_seq (pv 0)) (blkOk_by (N := ["some", "bits"]) (sc := defScope (top 37)) (by decide +kernel)) (fun _ _ _ _ _ => pg_name (i := 1) sc37.nd rfl (Or.inl rfl)) (fun _ _ _ _ _ => pts_nil)
        (fun _ _ _ _ _ => C8.pe_c c1 hr (by decide) (by rfl) (pa_cons (pv 1) pa_nil))) pa_nil))), ?_⟩
    dsimp only [tRet, tCB, tCons]
    refine map_lc (fun R h => ⟨_, rfl, h⟩) (.inl hq) (by rw [nv_length]; omega) (fun _ => rfl)
      (fun D i y H2 => ∃ (b : Nat) (r : Addr), bs[i]? = some b ∧ y = .ref r ∧ r ≠ D ∧ H r = none ∧ H2 r = some (.lst (nv (told b)))) (fun D i y H1 H2 bt ⟨b, r, e1, e2, e3, e4, e5⟩ => ⟨b, r, e1, e2, e3, e4, bt _ _ e5 e3⟩) ?_ ?_
    · intro D i x H' Q2 hx s2 hD2 kk
      obtain ⟨b, hb, rfl⟩ := nv_get hx
      exact ⟨_, rfl, b, rfl, fun H3 r s3 hr3 e3 => kk _ H3 s3 ⟨b, r, hb, rfl, fun z => hD2 (by rw [← z]; exact hr3), s2.free hr3, e3⟩⟩
    · intro D H2 ys hD s2 hD2 ly hy
      rw [nv_length] at ly
      obtain ⟨es, rfl, hes, hes2⟩ := pairs_of (R := fun r (b : Nat) => H r = none ∧ H2 r = some (.lst (nv (told b)))) (ys := ys) (ls := bs) ly fun i y b hy1 hb1 => by
        obtain ⟨b2, r, e1, e2, _, e4⟩ := hy i y hy1
        rw [e1] at hb1
        cases hb1
        exact ⟨r, e2, e4⟩
      refine ⟨D, es.map fun e => (e.1, zs (told e.2)), rfl, ?_, ?_, fun rs p2 pm hs hp2 => ?_⟩
      · rw [List.map_map]
        exact SqL.of hD2
      · intro e he
        obtain ⟨e0, he0, rfl⟩ := List.mem_map.mp he
        exact SqL.of (hes2 e0 he0).2
      · obtain ⟨fs, pf, rfl⟩ := perm_map_inv (fun e : Addr × Nat => (e.1, zs (told e.2))) pm es rfl
        rw [List.map_map]
        have s3 : Same H2 (upd H2 p2 (.lst (refs fs))) := Same.new hp2
        have pm2 : (fs.map (·.2)).Perm bs := by
          rw [← hes]
          exact pf.map _
        have hs2 := List.pairwise_map.mp hs
        refine k _ p2 fs (s2.trans s3) ⟨s2.free hp2, upd_same, fun e he => ⟨(hes2 e (pf.mem_iff.mp he)).1, s3 _ _ (hes2 e (pf.mem_iff.mp he)).2⟩, hs2, pm2.nodup_iff.mpr bnd, ?_, fun e he => ne_of_none (hes2 e (pf.mem_iff.mp he)).2 hp2⟩ fun x => pm2.mem_iff
        have := pm2.length_eq
        rw [List.length_map] at this
        omega
theorem k_flats (fl : Addr) : valV [((Sum.inr "flats" : Key), V.ref fl)] (Sum.inr "flats") = some (.ref fl) := valV_pos rfl
theorem sc38 : FnScope ["store"] ["store"] (defScope (top 38)) := ⟨rfl, rfl, rfl, by decide +kernel, rfl, by decide +kernel, by decide +kernel⟩
theorem ok_flat_bits (T : Txt mg) (t : StTxt K mg C) (a : IsAt K mg "flat_bits" 38 ["store"]) (c1 : C8.Cal P w K mg base 2 "closed_from" (spClosedFrom K C) []) : C8.Cal P w K mg base 3 "flat_bits" (spFlatBits C) [] := by
  obtain ⟨f, fd, a⟩ := a
  refine a.cal sc38 (fun vs H Q E h => ?_) (fun cdv A outer s H vs Q E hr h => ?_)
  · obtain ⟨p, n, ds, ss, kd, rfl, _⟩ := h
    rfl
  · obtain ⟨p, n, ds, ss, kd, rfl, st, kp, k⟩ := h
    have hu : A.units + 3 + 64 < cLine := hr.units
    have hu1 : A.units + 3 + 1 < cLine := by omega
    obtain ⟨dx, D, S, hp, hD, hS⟩ := st.ob
    refine ⟨_, pss_cons (ps_if (pt_cmp (pc_dnotin hu1 pe_str (pe_fld (pv 0) rfl)))
        (pss_one (ps_dput hu1 (pe_fld (pv 0) rfl) pe_str (C8.pe_c c1 hr (by decide) (by rfl) (pa_cons (pv 0) (pa_cons (pe_lst pa_nil) pa_nil))) (by rfl))) pss_nil)
      (pss_one (ps_ret (pe_callTy call_list_of (by rfl) T.list (by decide +kernel) (pa_cons (pe_dget hu1 (pe_fld (pv 0) rfl) pe_str (fun _ _ => rfl)) pa_nil)))), ?_⟩
    rcases kp with h0 | ⟨fl, fs, h1, h2, h3, h4, h5⟩
    · refine ⟨_, rfl, p, C, dx, _, _, rfl, hp, t.ins.cl, t.nk, sf_kept _ _ _ _, kd, _, rfl, DGet.k (k := Sum.inr "flats") h0, _, rfl, iteT ?_⟩
      refine ⟨_, rfl, Nat.zero_le _, fun l hl => ⟨p, n, ds, ss, kd, l, [], rfl, st.same (Same.new hl), SqL.of upd_same, Nat.zero_le _, fun b hb => absurd hb List.not_mem_nil, fun H1 fl fs s1 hfl e1 nd mm f256 => ?_⟩⟩
      have s01 := (Same.new (o := .lst []) hl).trans s1
      have hkl : kd ≠ l := ne_of_none h0 hl
      refine ⟨_, rfl, p, C, dx, _, _, rfl, s01 _ _ hp, t.ins.cl, t.nk, sf_kept _ _ _ _, kd, _, rfl, DPut.k (k := Sum.inr "flats") (s01 _ _ h0) (by decide), ?_⟩
      rw [putK_new (κ := Key) (kvs := []) _ valV_nil, List.nil_append]
      generalize hH2 : upd H1 kd (.dK [((Sum.inr "flats" : Key), .ref fl)]) = H2
      have k2 : H2 kd = some (.dK [((Sum.inr "flats" : Key), .ref fl)]) := by rw [← hH2]; exact upd_same
      have b2 : But kd H H2 := fun b o e hb => by
        rw [← hH2, upd_ne hb]
        exact s01 _ _ e
      have st2 := st.but ⟨_, h0⟩ b2
      have fl0 : H fl = none := (Same.new hl).free hfl
      have nfk : fl ≠ kd := fun z => by
        rw [z, h0] at fl0
        cases fl0
      have f2 : H2 fl = some (.lst (nv fs)) := by
        rw [← hH2, upd_ne nfk]
        exact e1
      obtain ⟨dx2, D2, S2, hp2, _, _⟩ := st2.ob
      refine ⟨_, rfl, p, C, dx2, _, _, rfl, hp2, t.ins.cl, t.nk, sf_kept _ _ _ _, kd, _, rfl, (k_flats fl) ▸ DGet.k (k := Sum.inr "flats") k2, fl, _, rfl, .inl (SqL.of f2), fun q hq => ?_⟩
      have mm2 : ∀ x, x ∈ fs ↔ Cl ds ss NoB x := fun x => (mm x).trans cl_nil
      have sq := Same.new (o := .lst (nv fs)) hq
      refine k _ q fs (b2.trans (But.of sq)) (st2.same sq) (Kept.same (.inr ⟨fl, fs, k2, f2, nd, mm2, f256⟩) sq) (fun x hx _ fl2 h2 => ?_) ?_ upd_same nd mm2 f256
      · rw [sq _ _ k2] at h2
        cases h2
        exact fun z => hx (by rw [← z]; exact fl0)
      cases e : H q with
      | none => rfl
      | some o =>
        by_cases hb : q = kd
        · rw [hb, k2] at hq
          cases hq
        · rw [b2 _ _ e hb] at hq
          cases hq
    · have g1 : DGet H kd (.str "flats") (some (.ref fl)) := (k_flats fl) ▸ DGet.k (k := Sum.inr "flats") h1
      refine ⟨_, rfl, p, C, dx, _, _, rfl, hp, t.ins.cl, t.nk, sf_kept _ _ _ _, kd, _, rfl, g1, _, rfl, ?_⟩
      refine iteF ?_
      refine ⟨_, rfl, p, C, dx, _, _, rfl, hp, t.ins.cl, t.nk, sf_kept _ _ _ _, kd, _, rfl, g1, fl, _, rfl, .inl (SqL.of h2), fun q hq => ?_⟩
      have sq := Same.new (o := .lst (nv fs)) hq
      exact k _ q fs (But.of sq) (st.same sq) (Kept.same (.inr ⟨fl, fs, h1, h2, h3, h4, h5⟩) sq) (fun x hx h fl2 h6 => h fl2 (by rw [sq _ _ h1] at h6; rw [h1]; exact h6)) hq upd_same h3 h4 h5
theorem sc39 : FnScope ["store"] ["store"] (defScope (top 39)) := ⟨rfl, rfl, rfl, by decide +kernel, rfl, by decide +kernel, by decide +kernel⟩
theorem ok_flats_of (a : IsAt K mg "flats_of" 39 ["store"]) (c1 : C8.Cal P w K mg base 3 "told_lots" (spToldLots K) []) (c2 : C8.Cal P w K mg base 3 "flat_bits" (spFlatBits C) []) : C8.Cal P w K mg base 4 "flats_of" (spFlatLots C) [] := by
  obtain ⟨f, fd, a⟩ := a
  refine a.cal sc39 (fun vs H Q E h => ?_) (fun cdv A outer s H vs Q E hr h => ?_)
  · obtain ⟨p, n, ds, ss, kd, rfl, _⟩ := h
    rfl
  · obtain ⟨p, n, ds, ss, kd, rfl, st, kp, k⟩ := h
    refine ⟨_, pss_one (ps_ret (C8.pe_c c1 hr (by decide) (by rfl) (pa_cons (C8.pe_c c2 hr (by decide) (by rfl) (pa_cons (pv 0) pa_nil)) pa_nil))), ?_⟩
    refine ⟨_, rfl, p, n, ds, ss, kd, rfl, st, kp, fun H1 q1 fs b1 st1 kp1 no1 hq1 e1 nd mm f256 => ⟨q1, fs, rfl, SqL.of e1, f256, nd, fun H2 q es s2 nl me => ?_⟩⟩
    have fr : ∀ {x : Addr}, H1 x = none → H x = none := fun {x} hx => by
      cases e : H x with
      | none => rfl
      | some o =>
        by_cases hb : x = kd
        · obtain ⟨kvs, hk⟩ := kp1.dict
          rw [hb, hk] at hx
          cases hx
        · rw [b1 _ _ e hb] at hx
          cases hx
    have same : ∀ fl, H2 kd = some (.dK [((Sum.inr "flats" : Key), .ref fl)]) → H1 kd = some (.dK [((Sum.inr "flats" : Key), .ref fl)]) := fun fl h => by
      obtain ⟨kvs, hk⟩ := kp1.dict
      rw [s2 _ _ hk] at h
      rw [hk]
      exact h
    have far : ∀ x, H1 x = none → KNo H2 kd x := fun x hx fl h => by
      have h1 := same fl h
      rcases kp1 with h0 | ⟨fl2, fs2, h2, h3, _⟩
      · rw [h0] at h1
        cases h1
      · rw [h2] at h1
        cases h1
        exact ne_of_none h3 hx
    refine k H2 q es (b1.trans (But.of s2)) (st1.same s2) (kp1.same s2) (fun x hx h fl h2 => no1 x hx h fl (same fl h2)) (far q nl.q0) (fun e he => far e.1 (nl.lot e he).1) ⟨fr nl.q0, nl.at_, fun e he => ⟨fr (nl.lot e he).1, (nl.lot e he).2⟩, nl.sort, nl.nd, nl.few, nl.ne⟩ fun x => (me x).trans (mm x)
theorem sc42 : FnScope ["store"] ["store"] (defScope (top 42)) := ⟨rfl, rfl, rfl, by decide +kernel, rfl, by decide +kernel, by decide +kernel⟩
theorem ok_flat_lots (a : IsAt K mg "flat_lots" 42 ["store"]) (c1 : C8.Cal P w K mg base 1 "want_store" (spWantStore C) []) (c2 : C8.Cal P w K mg base 4 "flats_of" (spFlatLots C) []) : AtOk P w K mg base 5 "flat_lots" (top 42) ["store"] (spFlatLots C) := by
  obtain ⟨f, fd, a⟩ := a
  refine a.atOk sc42 (fun vs H Q E h => ?_) (fun cdv A outer s H vs Q E hr h => ?_)
  · obtain ⟨p, n, ds, ss, kd, rfl, _⟩ := h
    rfl
  · obtain ⟨p, n, ds, ss, kd, rfl, st, kp, k⟩ := h
    obtain ⟨dx, D, S, hp, hD, hS⟩ := st.ob
    refine ⟨_, pss_cons (ps_expr (C8.pe_c c1 hr (by decide) (by rfl) (pa_cons (pv 0) pa_nil))) (pss_one (ps_ret (C8.pe_c c2 hr (by decide) (by rfl) (pa_cons (pv 0) pa_nil)))), ?_⟩
    exact ⟨_, rfl, p, dx, _, rfl, hp, _, rfl, p, n, ds, ss, kd, rfl, st, kp, k⟩
theorem sc40 : FnScope ["store", "value", "one"] ["store", "value"] (defScope (top 40)) := ⟨rfl, rfl, rfl, by decide +kernel, rfl, by decide +kernel, by decide +kernel⟩
theorem ok_are_lots (T : Txt mg) (t : StTxt K mg C) (a : IsAt K mg "are_lots" 40 ["store", "value"]) (c1 : C8.Cal P w K mg base 1 "is_list" (spIsList K) []) (c2 : C8.Cal P w K mg base 3 "is_lot_of" (spIsLotOf K) []) : C8.Cal P w K mg base 4 "are_lots" (spAreLots K C) [] := by
  obtain ⟨f, fd, a⟩ := a
  refine a.cal sc40 (fun vs H Q E h => ?_) (fun cdv A outer s H vs Q E hr h => ?_)
  · obtain ⟨p, a, n, ds, ss, kd, es, rfl, _⟩ := h
    rfl
  · obtain ⟨p, a, n, ds, ss, kd, es, rfl, st, li, k⟩ := h
    obtain ⟨dx, D, S, hp, hD, hS⟩ := st.ob
    refine ⟨_, pss_one (ps_ret (pe_and (C8.pe_c c1 hr (by decide) (by rfl) (pa_cons (pv 1) pa_nil))
      (pe_one (pe_callB (cr_all rfl) (by rfl) T.all (by decide +kernel) (pa_cons
        (pe_lc (own := [("one", 2)]) (by rfl) sc40.nd (pi_seq (pv 1)) (blkOk_by (N := ["store", "value", "one"]) (sc := defScope (top 40)) (by decide +kernel)) (fun _ _ _ _ _ => pg_name (i := 2) sc40.nd rfl (Or.inl rfl)) (fun _ _ _ _ _ => pts_nil)
          (fun _ _ _ _ _ => C8.pe_c c2 hr (by decide) (by rfl) (pa_cons (show PE _ _ (tFld K (tVar 0) "own_shelves") from pe_fld (pv 0) rfl) (pa_cons (pv 2) pa_nil)))) pa_nil))))), ?_⟩
    refine ⟨_, rfl, a, _, rfl, li.at_, fun H1 s1 => ⟨_, rfl, iteT ?_⟩⟩
    refine all_seq rfl (s1.sq li.at_) (by have := li.few; rw [List.length_map]; omega) (fun _ => rfl) ?_ (fun H2 s2 => k H2 (s1.trans s2))
    intro i x H' Q2 hx s2 q
    obtain ⟨e, _, he, rfl⟩ := refs_get hx
    obtain ⟨h1, h2⟩ := (li.same (s1.trans s2)).each e he
    exact ⟨_, rfl, p, C, dx, _, _, rfl, s2 _ _ (s1 _ _ hp), t.ins.cl, t.nh, sf_shelves _ _ _ _, _, rfl, n, e.1, e.2, rfl, st.n8, h1, h2, q⟩
theorem sc43 : FnScope ["store", "lot"] ["store", "lot"] (defScope (top 43)) := ⟨rfl, rfl, rfl, by decide +kernel, rfl, by decide +kernel, by decide +kernel⟩
theorem ok_is_flat (a : IsAt K mg "is_flat" 43 ["store", "lot"]) (c1 : C8.Cal P w K mg base 1 "want_store" (spWantStore C) []) (c2 : C8.Cal P w K mg base 2 "row_to" (spRowTo K C) []) (c3 : C8.Cal P w K mg base 5 "want_lot_of" (spWantLotOf K C) []) : AtOk P w K mg base 6 "is_flat" (top 43) ["store", "lot"] (spIsFlat K C) := by
  obtain ⟨f, fd, a⟩ := a
  refine a.atOk sc43 (fun vs H Q E h => ?_) (fun cdv A outer s H vs Q E hr h => ?_)
  · obtain ⟨p, a, n, ds, ss, kd, l, rfl, _⟩ := h
    rfl
  · obtain ⟨p, a, n, ds, ss, kd, l, rfl, st, hq, g, k⟩ := h
    obtain ⟨dx, D, S, hp, hD, hS⟩ := st.ob
    refine ⟨_, pss_cons (ps_expr (C8.pe_c c1 hr (by decide) (by rfl) (pa_cons (pv 0) pa_nil))) (pss_one (ps_ret (pe_cmp (pc_notN (C8.pe_c c2 hr (by decide) (by rfl) (pa_cons (pv 0) (pa_cons (C8.pe_c c3 hr (by decide) (by rfl) (pa_cons (pv 0) (pa_cons (pv 1) pa_nil))) pa_nil))))))), ?_⟩
    refine ⟨_, rfl, p, dx, _, rfl, hp, _, rfl, _, rfl, _, rfl, p, a, n, ds, ss, kd, l, rfl, st, hq, g, fun H1 s1 => ?_⟩
    refine ⟨p, n, ds, ss, kd, bitsN l, rfl, st.same s1, bitsN_lt g.2, fun H2 s2 no => ?_, fun H2 q s2 yes => ?_⟩
    · exact k H2 false (s1.trans s2) ⟨fun z => absurd z Bool.false_ne_true, fun z => absurd z no⟩
    · exact k H2 true (s1.trans s2) ⟨fun _ => yes, fun _ => rfl⟩
theorem sc44 : FnScope ["store", "lots", "lot"] ["store", "lots"] (defScope (top 44)) := ⟨rfl, rfl, rfl, by decide +kernel, rfl, by decide +kernel, by decide +kernel⟩
theorem ok_closure (T : Txt mg) (a : IsAt K mg "closure" 44 ["store", "lots"]) (c1 : C8.Cal P w K mg base 1 "want_store" (spWantStore C) []) (c2 : C8.Cal P w K mg base 4 "are_lots" (spAreLots K C) []) (c3 : C8.Cal P w K mg base 3 "told_lots" (spToldLots K) []) (c4 : C8.Cal P w K mg base 2 "closed_from" (spClosedFrom K C) []) (c5 : C8.Cal P w K mg base 1 "bits_of" (spBitsOf K) []) :
    AtOk P w K mg base 5 "closure" (top 44) ["store", "lots"] (spClosure K C) := by
  obtain ⟨f, fd, a⟩ := a
  refine a.atOk sc44 (fun vs H Q E h => ?_) (fun cdv A outer s H vs Q E hr h => ?_)
  · obtain ⟨p, a, n, ds, ss, kd, es, rfl, _⟩ := h
    rfl
  · obtain ⟨p, a, n, ds, ss, kd, es, rfl, st, li, k⟩ := h
    obtain ⟨dx, D, S, hp, hD, hS⟩ := st.ob
    refine ⟨_, pss_cons (ps_expr (C8.pe_c c1 hr (by decide) (by rfl) (pa_cons (pv 0) pa_nil)))
      (pss_cons (ps_if (PW.pt (pw_or (pt_not (pt_val (C8.pe_c c2 hr (by decide) (by rfl) (pa_cons (pv 0) (pa_cons (pv 1) pa_nil))))) (pw_or1 (pt_cmpR op_gt (pe_callB call_len_seq (by rfl) T.len (by decide +kernel) (pa_cons (pv 1) pa_nil)) (C8.pe_gc (by rfl) T.lots) (nomark _))))) pss_never pss_nil)
      (pss_one (ps_ret (C8.pe_c c3 hr (by decide) (by rfl) (pa_cons (C8.pe_c c4 hr (by decide) (by rfl) (pa_cons (pv 0) (pa_cons
        (pe_lc (own := [("lot", 2)]) (by rfl) sc44.nd (pi_seq (pv 1)) (blkOk_by (N := ["store", "lots", "lot"]) (sc := defScope (top 44)) (by decide +kernel)) (fun _ _ _ _ _ => pg_name (i := 2) sc44.nd rfl (Or.inl rfl)) (fun _ _ _ _ _ => pts_nil)
          (fun _ _ _ _ _ => C8.pe_c c5 hr (by decide) (by rfl) (pa_cons (pv 2) pa_nil))) pa_nil))) pa_nil))))), ?_⟩
    refine ⟨_, rfl, p, dx, _, rfl, hp, _, rfl, _, rfl, p, a, n, ds, ss, kd, es, rfl, st, li, fun H1 s1 => ⟨_, rfl, ?_⟩⟩
    refine iteF ?_
    have few := li.few
    refine ⟨_, rfl, a, refs es, rfl, (s1.sq li.at_).elim .inl .inr, _, _, rfl, rfl, _, rfl, ?_⟩
    have e0 : decide ((256 : Int) < ((refs es).length : Int)) = false := decide_eq_false (by rw [List.length_map]; omega)
    rw [e0]
    refine iteF ⟨_, rfl, ?_⟩
    have li1 := li.same s1
    dsimp only [tCons]
    refine bits_lc rfl st.n8 li1.at_ (by omega) (fun e he => li1.each e he) (fun _ => rfl) (fun _ => rfl) fun D1 H2 hD1 s2 e2 => ?_
    have s12 := s1.trans s2
    refine ⟨p, n, ds, ss, kd, D1, bitsOf es, rfl, st.same s12, SqL.of e2, by rw [List.length_map]; omega, bits_lt fun e he => (li.each e he).2, fun H3 q3 fs s3 hq3 e3 nd mm f256 => ?_⟩
    refine ⟨q3, fs, rfl, SqL.of e3, f256, nd, fun H4 q rs s4 nl me => ?_⟩
    have s13 := s12.trans s3
    exact k H4 q rs (s13.trans s4) ⟨s13.free nl.q0, nl.at_, fun e he => ⟨s13.free (nl.lot e he).1, (nl.lot e he).2⟩, nl.sort, nl.nd, nl.few, nl.ne⟩ fun x => (me x).trans (mm x)
end
end K22
/-! is_closed_of, is_closed. -/
namespace K22
open PySem PySem.Spec L2
def lcScope : Expr → Scope
  | .ListComp _ _ sc _ => sc
  | _ => { kind := .function, names := [], isGenerator := false, isCoroutine := false }
def argOf : Expr → Expr
  | .Call _ (e :: _) _ _ => e
  | e => e
def eltOf : Expr → Expr
  | .ListComp e _ _ _ => e
  | e => e
def lastAnd : Stmt → Expr
  | .Return (some (.BoolOp _ es _)) _ => es.getD 1 (.Constant .none 0 ⟨0, 0, 0, 0⟩)
  | _ => .Constant .none 0 ⟨0, 0, 0, 0⟩
def x41 : Expr := argOf (lastAnd ((defBody (top 41)).getD 2 (.Pass ⟨0, 0, 0, 0⟩)))
abbrev N41 : List Str := ["store", "value", "some", "lot", "bits", "one"]
theorem ok41 : BlkOk N41 (relS (lcScope x41) (defScope (top 41))) (lcScope (argOf (eltOf x41))) [("one", 5)] := blkOk_by (by decide +kernel)
theorem alls {ys : List V} (hy : ∀ (i : Nat) (y : V), ys[i]? = some y → y = .bl true) : ys = (List.replicate ys.length true).map V.bl := List.ext_getElem? fun i => by
  cases e : ys[i]? with
  | none =>
    have := List.getElem?_eq_none_iff.mp e
    refine (List.getElem?_eq_none_iff.mpr ?_).symm
    rw [List.length_map, List.length_replicate]
    exact this
  | some y =>
    have lt := (List.getElem?_eq_some_iff.mp e).1
    rw [List.getElem?_map, List.getElem?_replicate, if_pos lt, hy i y e]
    rfl
/-- all([..]) whose list is reckoned over a list or a tuple -/
theorem all_lc {K : PySem.W.Frag} {tl : TE} {a : Addr} {xs : List V} {te : TE} {vs : List Nat} {j : Nat} {σ : L2.St} {H : Hp} {Q : VK} (hi : ∀ R : V → Hp → Prop, R (.ref a) H → tl σ H R) (hq : Sq K H a xs) (hl : xs.length ≤ 1000) (hw : ∀ x, wipe ((wipe σ vs).set j (some x)) vs = wipe σ vs)
    (elem : ∀ (i : Nat) (x : V) (H' : Hp) (Q2 : VK), xs[i]? = some x → Same H H' → (∀ H4, Same H' H4 → Q2 (.bl true) H4) → te ((wipe σ vs).set j (some x)) H' Q2) (hd : ∀ H', Same H H' → Q (.bl true) H') :
    tCB (rAll K) (tCons (tLc (iSeq K tl) (gName j) tYes te vs) tNil) σ H Q := by
  dsimp only [tCB, tCons]
  refine map_lc hi hq (by omega) hw (fun _ _ y _ => y = .bl true) (fun _ _ _ _ _ _ h => h) (fun D i x H' Q2 hx s1 _ kk => elem i x H' Q2 hx s1 fun H4 s4 => kk _ H4 s4 rfl) fun D H' ys hD s1 hd1 ly hy => ?_
  rw [alls hy] at hd1
  refine ⟨D, List.replicate ys.length true, rfl, SqL.of hd1, ?_⟩
  have e : (List.replicate ys.length true).all id = true := List.all_eq_true.mpr fun b hb => (List.mem_replicate.mp hb).2
  rw [e]
  exact hd H' s1
theorem map_list {K : PySem.W.Frag} {tl : TE} {xs : List V} {te : TE} {vs : List Nat} {j : Nat} {σ : L2.St} {H : Hp} {Q : VK} (hi : ∀ R : V → Hp → Prop, (∀ (H1 : Hp) (q : Addr), Same H H1 → H1 q = some (.lst xs) → R (.ref q) H1) → tl σ H R) (hl : xs.length ≤ 10000) (hw : ∀ x, wipe ((wipe σ vs).set j (some x)) vs = wipe σ vs)
    (R : Addr → Nat → V → Hp → Prop) (mono : ∀ D i y H1 H2, But D H1 H2 → R D i y H1 → R D i y H2)
    (elem : ∀ (D : Addr) (i : Nat) (x : V) (H' : Hp) (Q2 : VK), xs[i]? = some x → Same H H' → H' D ≠ none → (∀ y H4, Same H' H4 → R D i y H4 → Q2 y H4) → te ((wipe σ vs).set j (some x)) H' Q2)
    (hd : ∀ (D : Addr) (H' : Hp) (ys : List V), H D = none → Same H H' → H' D = some (.lst ys) → ys.length = xs.length → (∀ i y, ys[i]? = some y → R D i y H') → Q (.ref D) H') :
    tLc (iList K tl) (gName j) tYes te vs σ H Q := by
  refine hi _ fun H1 q s1 e1 => ⟨q, rfl, ⟨_, SqL.of e1⟩, fun D hD => ?_⟩
  exact map_it (j := j) (te := te) (vs := vs) (σ := σ) (Qd := fun H' => Q (.ref D) H') (walk_list (K := K) (a := q) (xs := xs)) hD (fun H' s => s.seq (SqL.of e1)) hl hw (R D) (mono D)
    (fun i x H' Q2 hx s2 => elem D i x H' Q2 hx (s1.trans s2)) fun H' ys s2 => hd D H' ys (s1.free hD) (s1.trans s2)
theorem all_list {K : PySem.W.Frag} {tl : TE} {xs : List V} {te : TE} {vs : List Nat} {j : Nat} {σ : L2.St} {H : Hp} {Q : VK} (hi : ∀ R : V → Hp → Prop, (∀ (H1 : Hp) (q : Addr), Same H H1 → H1 q = some (.lst xs) → R (.ref q) H1) → tl σ H R) (hl : xs.length ≤ 1000) (hw : ∀ x, wipe ((wipe σ vs).set j (some x)) vs = wipe σ vs)
    (elem : ∀ (i : Nat) (x : V) (H' : Hp) (Q2 : VK), xs[i]? = some x → Same H H' → (∀ H4, Same H' H4 → Q2 (.bl true) H4) → te ((wipe σ vs).set j (some x)) H' Q2) (hd : ∀ H', Same H H' → Q (.bl true) H') :
    tCB (rAll K) (tCons (tLc (iList K tl) (gName j) tYes te vs) tNil) σ H Q := by
  dsimp only [tCB, tCons]
  refine map_list hi (by omega) hw (fun _ _ y _ => y = .bl true) (fun _ _ _ _ _ _ h => h) (fun D i x H' Q2 hx s1 _ kk => elem i x H' Q2 hx s1 fun H4 s4 => kk _ H4 s4 rfl) fun D H' ys hD s1 hd1 ly hy => ?_
  rw [alls hy] at hd1
  refine ⟨D, List.replicate ys.length true, rfl, SqL.of hd1, ?_⟩
  have e : (List.replicate ys.length true).all id = true := List.all_eq_true.mpr fun b hb => (List.mem_replicate.mp hb).2
  rw [e]
  exact hd H' s1
/-- a family that is closed -/
def Closed (ds ss bs : List Nat) : Prop := 0 ∈ bs ∧ ∀ b ∈ bs, (∀ d ∈ ds, (b ||| d) ∈ bs) ∧ ∀ s ∈ ss, lessB b s ∈ bs
def spIsClosed (K : PySem.W.Frag) (C : Addr) : Sp := fun vs H Q _ => ∃ (p a : Addr) (n : Nat) (ds ss : List Nat) (kd : Addr) (es : List (Addr × List Nat)), vs = [.ref p, .ref a] ∧ StoreAt C H p n ds ss kd ∧ LotsIn K H a n es ∧ Closed ds ss (bitsOf es) ∧ ∀ H', Same H H' → Q (.bl true) H'
section
variable {P : Program} {w : World} {K : PySem.W.Frag} {mg : Str → Option Value} {base : Heap} {C : Addr}
theorem sc41 : FnScope N41 ["store", "value"] (defScope (top 41)) := ⟨rfl, rfl, rfl, by decide +kernel, rfl, by decide +kernel, by decide +kernel⟩
theorem ok_is_closed_of (T : Txt mg) (a : IsAt K mg "is_closed_of" 41 ["store", "value"]) (c1 : C8.Cal P w K mg base 4 "are_lots" (spAreLots K C) []) (c2 : C8.Cal P w K mg base 1 "bits_of" (spBitsOf K) []) (c3 : C8.Cal P w K mg base 1 "led_on" (spLedOn K C) []) :
    C8.Cal P w K mg base 5 "is_closed_of" (spIsClosed K C) [] := by
  obtain ⟨f, fd, a⟩ := a
  refine a.cal sc41 (fun vs H Q E h => ?_) (fun cdv A outer s H vs Q E hr h => ?_)
  · obtain ⟨p, a, n, ds, ss, kd, es, rfl, _⟩ := h
    rfl
  · obtain ⟨p, a, n, ds, ss, kd, es, rfl, st, li, cl, k⟩ := h
    refine ⟨_, pss_cons (ps_if (pt_not (pt_val (C8.pe_c c1 hr (by decide) (by rfl) (pa_cons (pv 0) (pa_cons (pv 1) pa_nil))))) (pss_one (ps_ret pe_bl)) pss_nil)
      (pss_cons (ps_set (i := 2) sc41.nd rfl (Or.inr rfl)
        (pe_lc (own := [("lot", 3)]) (by rfl) sc41.nd (pi_seq (pv 1)) (blkOk_by (N := N41) (sc := defScope (top 41)) (by decide +kernel)) (fun _ _ _ _ _ => pg_name (i := 3) sc41.nd rfl (Or.inl rfl)) (fun _ _ _ _ _ => pts_nil)
          (fun _ _ _ _ _ => C8.pe_c c2 hr (by decide) (by rfl) (pa_cons (pv 3) pa_nil))))
      (pss_one (ps_ret (pe_and (pe_cmpR op_in_seq pe_int (pv 2) (by with_unfolding_all rfl)) (pe_one (pe_callB (cr_all rfl) (by rfl) T.all (by decide +kernel) (pa_cons
        (pe_lc (own := [("bits", 4)]) (by rfl) sc41.nd (pi_seq (pv 2)) (blkOk_by (N := N41) (sc := defScope (top 41)) (by decide +kernel)) (fun _ _ _ _ _ => pg_name (i := 4) sc41.nd rfl (Or.inl rfl)) (fun _ _ _ _ _ => pts_nil)
          (fun _ _ _ _ _ => show PE _ _ (tCB (rAll K) (tCons (tLc (iList K (tCall (spLedOn K C) [] C8.E0 (tCons (tVar 0) (tCons (tVar 4) tNil)))) (gName 5) tYes (tOp (rIn K false) (tVar 5) (tVar 2)) [5]) tNil)) from pe_callB (cr_all rfl) (by rfl) T.all (by decide +kernel) (pa_cons
            (pe_lc (own := [("one", 5)]) (by rfl) sc41.nd (pi_list (C8.pe_c c3 hr (by decide) (by rfl) (pa_cons (pv 0) (pa_cons (pv 4) pa_nil)))) ok41 (fun _ _ _ _ _ => pg_name (i := 5) sc41.nd rfl (Or.inl rfl)) (fun _ _ _ _ _ => pts_nil)
              (fun _ _ _ _ _ => show PE _ _ (tOp (rIn K false) (tVar 5) (tVar 2)) from pe_cmpR op_in_seq (pv 5) (pv 2) (by with_unfolding_all rfl))) pa_nil))) pa_nil))))))), ?_⟩
    refine ⟨_, rfl, _, rfl, p, a, n, ds, ss, kd, es, rfl, st, li, fun H1 s1 => ⟨_, rfl, iteF ?_⟩⟩
    have li1 := li.same s1
    have few := li.few
    dsimp only [tNext, tSeq, tAsg]
    refine bits_lc ?_ st.n8 li1.at_ (by omega) (fun e he => li1.each e he) ?_ ?_ ?_
    · rfl
    · exact fun _ => rfl
    · exact fun _ => rfl
    intro D1 H2 hD1 s2 e2
    have s12 := s1.trans s2
    refine ⟨_, rfl, D1, nv (bitsOf es), rfl, .inl (SqL.of e2), rfl, nv_flat _, ?_⟩
    have e0 : inV (.int 0) (nv (bitsOf es)) = true := (nv_in 0 _).trans (decide_eq_true cl.1)
    refine ⟨_, rfl, ?_⟩
    show (if inV (.int 0) (nv (bitsOf es)) = true then _ else _)
    rw [e0]
    refine iteT ?_
    refine all_lc (fun R h => ⟨_, rfl, h⟩) (.inl (SqL.of e2)) (by rw [nv_length, List.length_map]; omega) (fun _ => rfl) ?_ fun H3 s3 => k H3 (s12.trans s3)
    intro i x H3 Q3 hx s3 q3
    obtain ⟨b, hb, rfl⟩ := nv_get hx
    have cb := cl.2 b (List.mem_of_getElem? hb)
    have s13 := s12.trans s3
    refine all_list (xs := nv (ds.map (b ||| ·) ++ ss.map (lessB b ·))) (fun R h => ⟨_, rfl, _, rfl, p, n, ds, ss, kd, b, rfl, st.same s13, fun H4 q s4 hq4 e4 => h H4 q s4 e4⟩) ?_ (fun _ => rfl) ?_ q3
    · have := st.dl
      have := st.sl
      rw [nv_length, List.length_append, List.length_map, List.length_map]
      omega
    · intro i y H4 Q4 hy s4 q4
      obtain ⟨c, hc, rfl⟩ := nv_get hy
      have mc : c ∈ bitsOf es := by
        rcases List.mem_append.mp (List.mem_of_getElem? hc) with h | h
        · obtain ⟨d, hd, rfl⟩ := List.mem_map.mp h
          exact cb.1 d hd
        · obtain ⟨d, hd, rfl⟩ := List.mem_map.mp h
          exact cb.2 d hd
      refine ⟨_, rfl, _, rfl, D1, nv (bitsOf es), rfl, .inl (SqL.of (s4 _ _ (s3 _ _ e2))), rfl, nv_flat _, ?_⟩
      show Q4 (.bl (inV (.int (c : Int)) (nv (bitsOf es)))) H4
      rw [nv_in, decide_eq_true mc]
      exact q4 H4 (Same.refl _)
theorem sc45 : FnScope ["store", "value"] ["store", "value"] (defScope (top 45)) := ⟨rfl, rfl, rfl, by decide +kernel, rfl, by decide +kernel, by decide +kernel⟩
theorem ok_is_closed (a : IsAt K mg "is_closed" 45 ["store", "value"]) (c1 : C8.Cal P w K mg base 1 "want_store" (spWantStore C) []) (c2 : C8.Cal P w K mg base 5 "is_closed_of" (spIsClosed K C) []) : AtOk P w K mg base 6 "is_closed" (top 45) ["store", "value"] (spIsClosed K C) := by
  obtain ⟨f, fd, a⟩ := a
  refine a.atOk sc45 (fun vs H Q E h => ?_) (fun cdv A outer s H vs Q E hr h => ?_)
  · obtain ⟨p, a, n, ds, ss, kd, es, rfl, _⟩ := h
    rfl
  · obtain ⟨p, a, n, ds, ss, kd, es, rfl, st, h⟩ := h
    obtain ⟨dx, D, S, hp, hD, hS⟩ := st.ob
    refine ⟨_, pss_cons (ps_expr (C8.pe_c c1 hr (by decide) (by rfl) (pa_cons (pv 0) pa_nil))) (pss_one (ps_ret (C8.pe_c c2 hr (by decide) (by rfl) (pa_cons (pv 0) (pa_cons (pv 1) pa_nil))))), ?_⟩
    exact ⟨_, rfl, p, dx, _, rfl, hp, _, rfl, _, rfl, p, a, n, ds, ss, kd, es, rfl, st, h⟩
end
end K22
/-! the law's draws. -/
namespace K22
open PySem PySem.Spec L2
/-- the pot of the draws -/
def PotAt (H : Hp) (pt : Addr) : Prop := ∃ u v : Int, H pt = some (.lst [.int u, .int v]) ∧ 0 ≤ u ∧ 0 ≤ v ∧ v < 4294967296
theorem But.free {a : Addr} {H H' : Hp} (b : But a H H') (h : H' a ≠ none) {x : Addr} (hx : H' x = none) : H x = none := by
  cases e : H x with
  | none => rfl
  | some o =>
    by_cases z : x = a
    · rw [z] at hx
      exact absurd hx h
    · rw [b _ _ e z] at hx
      cases hx
theorem PotAt.here {H : Hp} {pt : Addr} (p : PotAt H pt) : H pt ≠ none := by
  obtain ⟨u, v, h, _⟩ := p
  rw [h]
  exact fun z => nomatch z
theorem PotAt.same {H H' : Hp} {pt : Addr} (p : PotAt H pt) (s : Same H H') : PotAt H' pt := by
  obtain ⟨u, v, h, q⟩ := p
  exact ⟨u, v, s _ _ h, q⟩
def spPot (K : PySem.W.Frag) : Sp := fun vs H Q _ => ∃ (a : Addr) (ns : List Int), vs = [.ref a, .int 0] ∧ SqL K H a (ns.map V.int) ∧ ∀ (H' : Hp) (pt : Addr), Same H H' → H pt = none → PotAt H' pt → Q (.ref pt) H'
def spDraw : Sp := fun vs H Q _ => ∃ (pt : Addr) (m : Nat), vs = [.ref pt, .int m] ∧ PotAt H pt ∧ 0 < m ∧ m ≤ 1000 ∧ ∀ (H' : Hp) (r : Nat), But pt H H' → PotAt H' pt → r < m → Q (.int r) H'
theorem iteT_of {b : Bool} {A B : Prop} (h : b = true) (q : A) : (if b = true then A else B) := by
  rw [if_pos h]
  exact q
theorem iteF_of {b : Bool} {A B : Prop} (h : b = false) (q : B) : (if b = true then A else B) := by
  rw [if_neg (by rw [h]; exact Bool.false_ne_true)]
  exact q
theorem at_zero {α : Type} (x : α) (l : List α) : atI (x :: l) 0 = some x := by
  unfold atI ixN
  rw [if_pos (Int.le_refl 0), if_pos (by rw [List.length_cons]; omega)]
  rfl
theorem cut_ints (ns : List Int) (lo hi : Option Int) : ∃ ms : List Int, cutV (ns.map V.int) lo hi = ms.map V.int :=
  ⟨_, by unfold cutV; rw [← List.map_drop, ← List.map_take]⟩
section
variable {P : Program} {w : World} {K : PySem.W.Frag} {mg : Str → Option Value} {base : Heap} {C : Addr}
abbrev N47 : List Str := ["_law_script", "_law_k", "_law_cell"]
theorem sc47 : FnScope N47 ["_law_script", "_law_k"] (defScope (top 47)) := ⟨rfl, rfl, rfl, by decide +kernel, rfl, by decide +kernel, by decide +kernel⟩
theorem ok_pot (T : Txt mg) (a : IsAt K mg "_law_pot" 47 ["_law_script", "_law_k"]) : C8.Cal P w K mg base 1 "_law_pot" (spPot K) [] := by
  obtain ⟨f, fd, a⟩ := a
  refine a.cal sc47 (fun vs H Q E h => ?_) (fun cdv A outer s H vs Q E hr h => ?_)
  · obtain ⟨a, ns, rfl, _⟩ := h
    rfl
  · obtain ⟨a, ns, rfl, ha, k⟩ := h
    refine ⟨_, pss_cons (ps_set (i := 2) sc47.nd rfl (Or.inl rfl) (pe_op op_add (pe_op op_add (pe_op op_mul pe_int (pv 1)) pe_int)
        (pe_op op_mod (pe_callB (cr_sum rfl) (by rfl) T.sum (by decide +kernel) (pa_cons (pe_slice sl_list (pv 0) po_none (po_some pe_int)) pa_nil)) pe_int)))
      (pss_cons (ps_if (pt_cmpR op_lt (pv 1) (pe_callB call_len_seq (by rfl) T.len (by decide +kernel) (pa_cons (pv 0) pa_nil)) (nomark _))
        (pss_one (ps_set (i := 2) sc47.nd rfl (Or.inl rfl) (pe_callB call_abs (by rfl) T.abs (by decide +kernel) (pa_cons (pe_ix ix_list (pv 0) (pv 1) (fun _ _ => rfl)) pa_nil)))) pss_nil)
      (pss_one (ps_ret (pe_lst (pa_cons (pe_callB (call_max2 rfl) (by rfl) T.max (by decide +kernel) (pa_cons pe_int (pa_cons (pe_op op_sub (pv 2) (pe_op op_pow pe_int pe_int)) pa_nil)))
        (pa_cons (pe_op op_add (pe_op op_mod (pe_op op_mul (pe_callTy call_int1 (by rfl) T.int (by decide +kernel) (pa_cons (pe_op op_add (pe_op op_mod (pe_callTy call_int1 (by rfl) T.int (by decide +kernel) (pa_cons (pv 2) pa_nil)) pe_int) pe_int) pa_nil))
          (pe_op op_pow (pe_op op_add (pe_op op_mul pe_int (pv 1)) pe_int) pe_int)) pe_int) pe_int) pa_nil)))))), ?_⟩
    obtain ⟨ms, hms⟩ := cut_ints ns none (some 1)
    refine ⟨_, rfl, _, _, rfl, rfl, .inl ⟨by decide, by decide⟩, _, _, rfl, rfl, _, rfl, _, rfl, a, _, rfl, ha, fun q hq => ?_⟩
    rw [hms]
    refine ⟨q, ms, rfl, SqL.of upd_same, _, _, rfl, rfl, (by decide : (0 : Int) < 1000003), _, _, rfl, rfl, ?_⟩
    have s1 : Same H (upd H q (.lst (ms.map V.int))) := Same.new hq
    generalize upd H q (.lst (ms.map V.int)) = H1 at s1 ⊢
    refine ⟨_, rfl, _, rfl, a, _, rfl, .inl (s1.seq ha), _, _, rfl, rfl, _, rfl, ?_⟩
    cases ns with
    | nil =>
      refine iteF ?_
      refine ⟨_, rfl, _, _, rfl, rfl, ⟨by decide, by decide, by decide⟩, _, _, rfl, rfl, _, _, rfl, ?_⟩
      refine ⟨_, rfl, .inl ⟨_, rfl, _, _, rfl, rfl, (by decide : (0 : Int) < 2147483549), _, _, rfl, rfl, .inl ⟨_, rfl, ?_⟩⟩⟩
      refine ⟨_, rfl, _, _, rfl, rfl, .inl ⟨by decide, by decide⟩, _, _, rfl, rfl, _, _, rfl, rfl, ⟨by decide, by decide, by decide⟩, _, _, rfl, rfl, .inr ⟨by decide, by decide⟩, _, _, rfl, rfl, (by decide : (0 : Int) < 2147483477), _, _, rfl, rfl, ?_⟩
      refine ⟨by show 2 ≤ sizeLine; decide, fun pt hpt => k _ pt (s1.trans (Same.new hpt)) (s1.free hpt) ⟨_, _, upd_same, ?_, ?_, ?_⟩⟩
      · split <;> omega
      · omega
      · omega
    | cons x t =>
      refine (iteT_of (decide_eq_true (by rw [List.length_map, List.length_cons]; omega))) ?_
      refine ⟨_, rfl, _, rfl, a, _, _, _, rfl, rfl, s1.seq ha, at_zero _ _, _, rfl, ?_⟩
      refine ⟨_, rfl, _, _, rfl, rfl, ⟨by decide, by decide, by decide⟩, _, _, rfl, rfl, _, _, rfl, ?_⟩
      refine ⟨_, rfl, .inl ⟨_, rfl, _, _, rfl, rfl, (by decide : (0 : Int) < 2147483549), _, _, rfl, rfl, .inl ⟨_, rfl, ?_⟩⟩⟩
      refine ⟨_, rfl, _, _, rfl, rfl, .inl ⟨by decide, by decide⟩, _, _, rfl, rfl, _, _, rfl, rfl, ⟨by decide, by decide, by decide⟩, _, _, rfl, rfl, .inr ⟨by decide, by decide⟩, _, _, rfl, rfl, (by decide : (0 : Int) < 2147483477), _, _, rfl, rfl, ?_⟩
      refine ⟨by show 2 ≤ sizeLine; decide, fun pt hpt => k _ pt (s1.trans (Same.new hpt)) (s1.free hpt) ⟨_, _, upd_same, ?_, ?_, ?_⟩⟩
      · split <;> omega
      · omega
      · omega
abbrev N48 : List Str := ["_law_pot_here", "_law_many", "_law_digit"]
theorem sc48 : FnScope N48 ["_law_pot_here", "_law_many"] (defScope (top 48)) := ⟨rfl, rfl, rfl, by decide +kernel, rfl, by decide +kernel, by decide +kernel⟩
theorem ok_draw (T : Txt mg) (a : IsAt K mg "_law_draw" 48 ["_law_pot_here", "_law_many"]) : C8.Cal P w K mg base 1 "_law_draw" spDraw [] := by
  obtain ⟨f, fd, a⟩ := a
  refine a.cal sc48 (fun vs H Q E h => ?_) (fun cdv A outer s H vs Q E hr h => ?_)
  · obtain ⟨a, m, rfl, _⟩ := h
    rfl
  · obtain ⟨pt, m, rfl, ⟨u, v, hp, hu, hv, hv2⟩, m0, m1, k⟩ := h
    refine ⟨_, pss_cons (ps_if (pt_cmpR op_gt (pe_ix ix_list (pv 0) pe_int (fun _ _ => rfl)) pe_int (nomark _))
        (pss_cons (ps_asg (pe_callB call_divmod (by rfl) T.divmod (by decide +kernel) (pa_cons (pe_ix ix_list (pv 0) pe_int (fun _ _ => rfl)) (pa_cons (pv 1) pa_nil)))
          (pg_tup (by rfl) (pgs_cons (pg_sub (pv 0) pe_int set_list) (pgs_cons (pg_name (i := 2) sc48.nd rfl (Or.inl rfl)) pgs_nil))))
        (pss_one (ps_ret (pv 2)))) pss_nil)
      (pss_cons (ps_asg (pe_op op_mod (pe_callTy call_int1 (by rfl) T.int (by decide +kernel) (pa_cons (pe_op op_add (pe_op op_mul (pe_ix ix_list (pv 0) pe_int (fun _ _ => rfl)) pe_int) pe_int) pa_nil)) pe_int) (pg_sub (pv 0) pe_int set_list))
      (pss_one (ps_ret (pe_op op_mod (pe_callTy call_int1 (by rfl) T.int (by decide +kernel) (pa_cons (pe_op op_fdiv (pe_op op_mod (pe_callTy call_int1 (by rfl) T.int (by decide +kernel) (pa_cons (pe_op op_mul (pe_ix ix_list (pv 0) pe_int (fun _ _ => rfl)) (pe_ix ix_list (pv 0) pe_int (fun _ _ => rfl))) pa_nil)) pe_int) pe_int) pa_nil)) (pv 1))))), ?_⟩
    refine ⟨_, rfl, pt, _, _, _, rfl, rfl, SqL.of hp, rfl, _, _, rfl, rfl, _, rfl, ?_⟩
    by_cases u0 : 0 < u
    · refine iteT_of (decide_eq_true u0) ?_
      have hm : (m : Int) ≠ 0 := by omega
      refine ⟨_, rfl, pt, _, _, _, rfl, rfl, SqL.of hp, rfl, _, rfl, _, _, rfl, ⟨by omega, by omega⟩, fun t ht => ?_⟩
      have hp2 : (upd H t (.tup [.int (u / m), .int (u % m)])) pt = some (.lst [.int u, .int v]) := (Same.new ht) _ _ hp
      refine ⟨t, _, rfl, SqT.of upd_same, rfl, _, _, rfl, _, rfl, pt, _, _, _, rfl, rfl, hp2, rfl, _, _, rfl, rfl, _, rfl, ?_⟩
      obtain ⟨r, hr⟩ := Int.eq_ofNat_of_zero_le (Int.emod_nonneg u hm)
      have hlt := Int.emod_lt_of_pos u (show (0 : Int) < m by omega)
      show Q (.int (u % (m : Int))) _
      rw [hr]
      rw [hr] at hlt
      refine k _ r (fun b o e hb => ?_) ⟨u / m, v, upd_same, Int.ediv_nonneg hu (by omega), hv, hv2⟩ (by omega)
      rw [upd_ne hb]
      exact (Same.new ht) _ _ e
    · refine iteF_of (decide_eq_false u0) ?_
      refine ⟨_, rfl, pt, _, _, _, rfl, rfl, SqL.of hp, rfl, _, _, rfl, rfl, .inr ⟨by decide, by decide⟩, _, _, rfl, rfl, .inl ⟨_, rfl, _, _, rfl, rfl, (by decide : (0 : Int) < 2147483587), _, rfl, pt, _, _, _, rfl, rfl, hp, rfl, ?_⟩⟩
      obtain ⟨v2, hv3⟩ : ∃ v2, (v * 48271 + 17551) % 2147483587 = v2 := ⟨_, rfl⟩
      have b1 : 0 ≤ v2 ∧ v2 < 2147483587 := by omega
      generalize hH1 : upd H pt _ = H1
      have hp2 : H1 pt = some (.lst [.int u, .int v2]) := by
        rw [← hH1, ← hv3]
        exact upd_same
      have b2 : But pt H H1 := fun b o e hb => by
        rw [← hH1, upd_ne hb]
        exact e
      refine ⟨_, rfl, pt, _, _, _, rfl, rfl, SqL.of hp2, rfl, _, rfl, pt, _, _, _, rfl, rfl, SqL.of hp2, rfl, _, _, rfl, rfl, .inl ⟨by omega, by omega⟩, .inl ⟨_, rfl, _, _, rfl, rfl, (by decide : (0 : Int) < 2147483549), _, _, rfl, rfl, ⟨by decide, by decide⟩, .inl ⟨_, rfl, _, rfl, _, _, rfl, rfl, (by show (0 : Int) < (m : Int); omega), ?_⟩⟩⟩
      generalize hx : v2 * v2 % 2147483549 / 13 = x
      have hm : (m : Int) ≠ 0 := by omega
      obtain ⟨r, hr⟩ := Int.eq_ofNat_of_zero_le (Int.emod_nonneg x hm)
      have hlt := Int.emod_lt_of_pos x (show (0 : Int) < m by omega)
      show Q (.int (x % (m : Int))) _
      rw [hr]
      rw [hr] at hlt
      exact k _ r b2 ⟨u, v2, hp2, hu, b1.1, by omega⟩ (by omega)
end
end K22
/-! the law's stores: _law_kind, _law_kinds, _law_parts. -/
namespace K22
open PySem PySem.Spec L2
/-- a kind: a rising list of places, not empty -/
structure KindL (l : List Nat) (n : Nat) : Prop where
  rise : l.Pairwise (· < ·)
  lt : ∀ i ∈ l, i < n
  ne : l ≠ []
theorem KindL.good {l : List Nat} {n : Nat} (k : KindL l n) : Good l n := ⟨k.rise.imp fun h => Nat.ne_of_lt h, k.lt⟩
/-- new kinds in a new list -/
structure KindsAt (H H' : Hp) (q : Addr) (es : List (Addr × List Nat)) (n : Nat) : Prop where
  q0 : H q = none
  at_ : H' q = some (.lst (refs es))
  kind : ∀ e ∈ es, H e.1 = none ∧ H' e.1 = some (.lst (nv e.2)) ∧ KindL e.2 n
  few : es.length ≤ 4
theorem ne_pt {H : Hp} {pt x : Addr} (p : H pt ≠ none) (h : H x = none) : x ≠ pt := fun z => p (by rw [← z]; exact h)
theorem KindsAt.but {H H1 H2 : Hp} {q : Addr} {es : List (Addr × List Nat)} {n : Nat} {pt : Addr} (a : KindsAt H H1 q es n) (p : H pt ≠ none) (b : But pt H1 H2) : KindsAt H H2 q es n :=
  ⟨a.q0, b _ _ a.at_ (ne_pt p a.q0), fun e he => let ⟨h1, h2, h3⟩ := a.kind e he; ⟨h1, b _ _ h2 (ne_pt p h1), h3⟩, a.few⟩
theorem refs_snoc {α : Type} (es : List (Addr × α)) (q : Addr) (l : α) : refs (es ++ [(q, l)]) = refs es ++ [V.ref q] := by
  unfold refs
  rw [List.map_append]
  rfl
def spKind : Sp := fun vs H Q _ => ∃ (pt : Addr) (n : Nat), vs = [.ref pt, .int n] ∧ PotAt H pt ∧ 2 ≤ n ∧ n ≤ 8 ∧ ∀ (H' : Hp) (q : Addr) (l : List Nat), But pt H H' → PotAt H' pt → H q = none → H' q = some (.lst (nv l)) → KindL l n → Q (.ref q) H'
def spKinds : Sp := fun vs H Q _ => ∃ (pt : Addr) (n m : Nat), vs = [.ref pt, .int n, .int m] ∧ PotAt H pt ∧ 2 ≤ n ∧ n ≤ 8 ∧ m ≤ 4 ∧ ∀ (H' : Hp) (q : Addr) (es : List (Addr × List Nat)), But pt H H' → PotAt H' pt → KindsAt H H' q es n → Q (.ref q) H'
def spParts : Sp := fun vs H Q _ => ∃ (pt : Addr), vs = [.ref pt, .int 5] ∧ PotAt H pt ∧ ∀ (H' : Hp) (t D S : Addr) (n : Nat) (es fs : List (Addr × List Nat)), But pt H H' → PotAt H' pt → H' t = some (.tup [.int n, .ref D, .ref S]) → 2 ≤ n → n ≤ 5 → KindsAt H H' D es n → KindsAt H H' S fs n → Q (.ref t) H'
section
variable {P : Program} {w : World} {K : PySem.W.Frag} {mg : Str → Option Value} {base : Heap} {C : Addr}
abbrev N49 : List Str := ["_law_pot_here", "_law_shelves", "_law_found", "_law_shelf"]
theorem sc49 : FnScope N49 ["_law_pot_here", "_law_shelves"] (defScope (top 49)) := ⟨rfl, rfl, rfl, by decide +kernel, rfl, by decide +kernel, by decide +kernel⟩
theorem ok_kind (T : Txt mg) (a : IsAt K mg "_law_kind" 49 ["_law_pot_here", "_law_shelves"]) (c1 : C8.Cal P w K mg base 1 "_law_draw" spDraw []) : C8.Cal P w K mg base 2 "_law_kind" spKind [] := by
  obtain ⟨f, fd, a⟩ := a
  refine a.cal sc49 (fun vs H Q E h => ?_) (fun cdv A outer s H vs Q E hr h => ?_)
  · obtain ⟨a, n, rfl, _⟩ := h
    rfl
  · obtain ⟨pt, n, rfl, hp, n2, n8, k⟩ := h
    have hu : A.units + 3 + 64 < cLine := hr.units
    refine ⟨_, pss_cons (ps_setLc (i := 2) (own := [("_law_shelf", 3)]) (by rfl) sc49.nd rfl rfl (by rfl) (pi_range1 (by rfl) T.range (pa_cons (pv 1) pa_nil)) (blkOk_by (N := N49) (sc := defScope (top 49)) (by decide +kernel)) (fun _ _ _ _ _ => pg_name (i := 3) sc49.nd rfl (Or.inl rfl))
          (fun _ _ _ _ _ => pts_one (pt_cmpR op_eq (C8.pe_c c1 hr (by decide) (by rfl) (pa_cons (pv 0) (pa_cons pe_int pa_nil))) pe_int (nomark _))) (fun _ _ _ _ _ => pv 3))
      (pss_one (ps_ret (pe_ifExp (pt_cmpR (op_neD hu) (pv 2) (pe_lst pa_nil) (nomark _)) (pv 2) (pe_lst (pa_cons (C8.pe_c c1 hr (by decide) (by rfl) (pa_cons (pv 0) (pa_cons (pv 1) pa_nil))) pa_nil))))), ?_⟩
    refine ⟨_, rfl, n, rfl, by omega, by omega, fun D hD => lc_range (lo := 0) (n := n) (fun i H' => But pt H H' ∧ PotAt H' pt ∧ i ≤ n ∧ ∃ l : List Nat, H' D = some (.lst (nv l)) ∧ l.Pairwise (· < ·) ∧ ∀ x ∈ l, x < i)
      ⟨But.of (Same.new hD), hp.same (Same.new hD), Nat.zero_le _, [], upd_same, .nil, fun x h => absurd h List.not_mem_nil⟩ ?_ ?_⟩
    · rintro i H' hi ⟨b1, p1, _, l, hd, hl, hx⟩
      have nD : D ≠ pt := ne_pt hp.here hD
      refine ⟨rfl, _, rfl, pt, 2, rfl, p1, by decide, by decide, fun H2 r b2 p2 hr2 => ⟨rfl, _, rfl, ?_⟩⟩
      have hd2 := b2 _ _ hd nD
      by_cases z : (V.int (r : Int)) = V.int 0
      · refine iteT_of (decide_eq_true z) ⟨_, rfl, _, hd2, ?_, fun b o e hb => ?_, ?_, hi, l ++ [i], ?_, ?_, ?_⟩
        · have g : Good l i := ⟨hl.imp fun h => Nat.ne_of_lt h, hx⟩
          have := g.length
          rw [nv_length]
          exact small1000 (by omega)
        · by_cases hbd : b = D
          · rw [hbd, hD] at e
            cases e
          · rw [upd_ne hbd]
            exact b2 _ _ (b1 _ _ e hb) hb
        · obtain ⟨u, v, h, q⟩ := p2
          exact ⟨u, v, by rw [upd_ne (Ne.symm nD)]; exact h, q⟩
        · rw [upd_same, nv_snoc, Int.zero_add]
        · rw [List.pairwise_append]
          refine ⟨hl, List.pairwise_singleton _ _, fun a ha b hb => ?_⟩
          rw [List.mem_singleton.mp hb]
          exact hx a ha
        · intro x hx2
          rcases List.mem_append.mp hx2 with h | h
          · exact Nat.lt_succ_of_lt (hx x h)
          · rw [List.mem_singleton.mp h]
            exact Nat.lt_succ_self _
      · exact iteF_of (decide_eq_false z) ⟨fun b o e hb => b2 _ _ (b1 _ _ e hb) hb, p2, hi, l, hd2, hl, fun x h => Nat.lt_succ_of_lt (hx x h)⟩
    · rintro H1 ⟨b1, p1, _, l, hd, hl, hx⟩
      refine ⟨_, rfl, Nat.zero_le _, fun l0 hl0 => ⟨intsD (zs l), intsD [], dpRow (SqL.of ((Same.new hl0) _ _ hd)), dpRow (ns := []) (SqL.of upd_same), intsD_shaped _, intsD_shaped _, _, rfl, ?_⟩⟩
      rw [intsD_eqv]
      have s2 : Same H1 (upd H1 l0 (.lst [])) := Same.new hl0
      generalize upd H1 l0 (.lst []) = H2 at s2 ⊢
      have b2 : But pt H H2 := b1.trans (But.of s2)
      have p2 := p1.same s2
      by_cases z : l = []
      · subst z
        rw [decide_eq_true (show zs [] = [] from rfl)]
        refine iteF ⟨_, rfl, _, rfl, pt, n, rfl, p2, by omega, by omega, fun H3 r b3 p3 hr3 => ⟨by show 1 ≤ sizeLine; decide, fun q hq => ?_⟩⟩
        have b4 : But pt H H3 := b2.trans b3
        refine k _ q [r] (b4.trans (But.of (Same.new hq))) (p3.same (Same.new hq)) (b4.free p3.here hq) upd_same ⟨List.pairwise_singleton _ _, fun i hi => ?_, fun z => nomatch z⟩
        rw [List.mem_singleton.mp hi]
        exact hr3
      · rw [decide_eq_false fun e => z (zs_nil.mp e)]
        exact iteT ⟨_, rfl, k H2 D l b2 p2 hD (s2 _ _ hd) ⟨hl, hx, z⟩⟩
abbrev N50 : List Str := ["_law_pot_here", "_law_shelves", "_law_most", "_law_found", "_law_turn", "_law_kind_here"]
theorem sc50 : FnScope N50 ["_law_pot_here", "_law_shelves", "_law_most"] (defScope (top 50)) := ⟨rfl, rfl, rfl, by decide +kernel, rfl, by decide +kernel, by decide +kernel⟩
/-- rows of places as data -/
theorem dpNv {K : PySem.W.Frag} {H : Hp} {a : Addr} {es : List (Addr × List Nat)} (h : H a = some (.lst (refs es))) (he : ∀ e ∈ es, H e.1 = some (.lst (nv e.2))) : Dp K H (.ref a) (rowsD (es.map fun e => zs e.2)) := by
  have h2 := dpRows (K := K) (H := H) (es.map fun e => (e.1, zs e.2)) fun b hb => by
    obtain ⟨e, h1, rfl⟩ := List.mem_map.mp hb
    exact SqL.of (he e h1)
  rw [List.map_map, List.map_map] at h2
  unfold rowsD
  rw [List.map_map]
  exact .lst (SqL.of h) h2
theorem ok_kinds (T : Txt mg) (a : IsAt K mg "_law_kinds" 50 ["_law_pot_here", "_law_shelves", "_law_most"]) (c1 : C8.Cal P w K mg base 1 "_law_draw" spDraw []) (c2 : C8.Cal P w K mg base 2 "_law_kind" spKind []) : C8.Cal P w K mg base 3 "_law_kinds" spKinds [] := by
  obtain ⟨f, fd, a⟩ := a
  refine a.cal sc50 (fun vs H Q E h => ?_) (fun cdv A outer s H vs Q E hr h => ?_)
  · obtain ⟨a, n, m, rfl, _⟩ := h
    rfl
  · obtain ⟨pt, n, m, rfl, hp, n2, n8, m4, k⟩ := h
    have hun : A.units + 3 + 16 * 2 + 200 < cLine := hr.un
    have hu : A.units + 3 + 64 < cLine := by omega
    have hu5 : A.units + 3 + 65 < cLine := by omega
    refine ⟨_, pss_cons (ps_set (i := 3) sc50.nd rfl (Or.inl rfl) (pe_lst pa_nil))
      (pss_cons (ps_for PassesOwn.never rfl (pi_range1 (by rfl) T.range (pa_cons (C8.pe_c c1 hr (by decide) (by rfl) (pa_cons (pv 0) (pa_cons (pe_op op_add (pv 2) pe_int) pa_nil))) pa_nil)) (pg_name (i := 4) sc50.nd rfl (Or.inl rfl))
        (pss_cons (ps_set (i := 5) sc50.nd rfl (Or.inl rfl) (C8.pe_c c2 hr (by decide) (by rfl) (pa_cons (pv 0) (pa_cons (pv 1) pa_nil))))
        (pss_one (ps_if (pt_cmpR (op_notInD hu5) (pv 5) (pv 3) (by with_unfolding_all rfl))
          (pss_one (ps_expr (pe_bm PySem.F.plainAttrs_list PySem.F.slot_list_append PySem.F.type_list_append mt_append (pv 3) (pa_cons (pv 5) pa_nil)))) pss_nil))))
      (pss_one (ps_ret (pe_callB (cr_sortL hu) (by rfl) T.sorted (by decide +kernel) (pa_cons (pv 3) pa_nil))))), ?_⟩
    refine ⟨Nat.zero_le _, fun fd hfd => ?_⟩
    have e5 : ((m : Int) + 1) = ((m + 1 : Nat) : Int) := by omega
    refine ⟨_, rfl, _, rfl, _, _, rfl, rfl, pt, m + 1, ?_, hp.same (Same.new hfd), by omega, by omega, fun H1 r b1 p1 hr1 => ⟨(r : Int), rfl, by omega, by omega, ?_⟩⟩
    · show [V.ref pt, V.int ((m : Int) + 1)] = _
      rw [e5]
    have nfp : fd ≠ pt := ne_pt hp.here hfd
    refine for_range (lo := 0) (n := r) (fun i σ H' => i ≤ r ∧ ∃ (es : List (Addr × List Nat)) (u v : Option V), σ = [some (.ref pt), some (.int (n : Nat)), some (.int (m : Nat)), some (.ref fd), u, v] ∧ But pt H H' ∧ PotAt H' pt ∧ H' fd = some (.lst (refs es)) ∧ es.length ≤ i ∧ ∀ e ∈ es, e.1 ≠ fd ∧ H e.1 = none ∧ H' e.1 = some (.lst (nv e.2)) ∧ KindL e.2 n)
      ⟨Nat.zero_le _, [], none, none, rfl, (But.of (Same.new hfd)).trans b1, p1, b1 _ _ upd_same nfp, Nat.le_refl _, fun e he => absurd he List.not_mem_nil⟩ ?_ ?_
    · rintro i σ H2 hi ⟨_, es, u, v, rfl, b2, p2, e2, le, each⟩
      refine ⟨_, rfl, _, rfl, pt, n, rfl, p2, n2, n8, fun H3 q l b3 p3 hq e3 kl => ?_⟩
      have b23 := b2.trans b3
      have qf : q ≠ fd := fun z => by rw [z, e2] at hq; cases hq
      have e4 : H3 fd = some (.lst (refs es)) := b3 _ _ e2 nfp
      have each3 : ∀ e ∈ es, e.1 ≠ fd ∧ H e.1 = none ∧ H3 e.1 = some (.lst (nv e.2)) ∧ KindL e.2 n := fun e he => by
        obtain ⟨h1, h2, h3, h4⟩ := each e he
        exact ⟨h1, h2, b3 _ _ h3 (ne_pt hp.here h2), h4⟩
      refine ⟨_, rfl, _, rfl, intsD (zs l), es.map fun e => intsD (zs e.2), dpRow (SqL.of e3), ?_, intsD_shaped _, ?_, _, rfl, ?_⟩
      · have h := dpNv (K := K) e4 fun e he => (each3 e he).2.2.1
        unfold rowsD at h
        rw [List.map_map] at h
        exact h
      · have h := rowsD_shaped (es.map fun e => zs e.2)
        unfold rowsD at h
        rw [List.map_map] at h
        exact h
      · generalize (!((es.map fun e => intsD (zs e.2)).any fun z => PyData.eqv z (intsD (zs l)))) = bb
        cases bb with
        | false => exact iteF ⟨hi, es, _, _, rfl, b23, p3, e4, Nat.le_succ_of_le le, each3⟩
        | true =>
          refine iteT ⟨_, rfl, .inl ⟨rfl, _, SqL.of e4⟩, _, rfl, fd, _, .ref q, rfl, rfl, e4, ?_, hi, es ++ [(q, l)], _, _, rfl, fun b o e hb => ?_, ?_, ?_, ?_, ?_⟩
          · rw [List.length_map]
            exact small1000 (by omega)
          · by_cases hbd : b = fd
            · rw [hbd, hfd] at e
              cases e
            · rw [upd_ne hbd]
              exact b23 _ _ e hb
          · obtain ⟨u1, v1, h, q1⟩ := p3
            exact ⟨u1, v1, by rw [upd_ne (Ne.symm nfp)]; exact h, q1⟩
          · rw [upd_same, refs_snoc]
          · rw [List.length_append, List.length_singleton]
            omega
          · intro e he
            rcases List.mem_append.mp he with h | h
            · obtain ⟨h1, h2, h3, h4⟩ := each3 e h
              exact ⟨h1, h2, by rw [upd_ne h1]; exact h3, h4⟩
            · rw [List.mem_singleton.mp h]
              exact ⟨qf, b2.free p2.here hq, by rw [upd_ne qf]; exact e3, kl⟩
    · rintro σ H2 ⟨_, es, u, v, rfl, b2, p2, e2, le, each⟩
      refine ⟨_, rfl, fd, es.map fun e => (e.1, zs e.2), rfl, ?_, ?_, fun rs p3 pm _ hp3 => ?_⟩
      · rw [List.map_map]
        exact SqL.of e2
      · intro e he
        obtain ⟨e0, he0, rfl⟩ := List.mem_map.mp he
        exact SqL.of (each e0 he0).2.2.1
      · obtain ⟨fs, pf, rfl⟩ := perm_map_inv (fun e : Addr × List Nat => (e.1, zs e.2)) pm es rfl
        rw [List.map_map]
        have s3 : Same H2 (upd H2 p3 (.lst (refs fs))) := Same.new hp3
        refine k _ p3 fs (b2.trans (But.of s3)) (p2.same s3) ⟨b2.free p2.here hp3, upd_same, fun e he => ?_, ?_⟩
        · obtain ⟨_, h2, h3, h4⟩ := each e (pf.mem_iff.mp he)
          exact ⟨h2, s3 _ _ h3, h4⟩
        · rw [pf.length_eq]
          omega
abbrev N51 : List Str := ["_law_pot_here", "_law_most", "_law_shelves"]
theorem sc51 : FnScope N51 ["_law_pot_here", "_law_most"] (defScope (top 51)) := ⟨rfl, rfl, rfl, by decide +kernel, rfl, by decide +kernel, by decide +kernel⟩
theorem ok_parts (a : IsAt K mg "_law_parts" 51 ["_law_pot_here", "_law_most"]) (c1 : C8.Cal P w K mg base 1 "_law_draw" spDraw []) (c2 : C8.Cal P w K mg base 3 "_law_kinds" spKinds []) : C8.Cal P w K mg base 4 "_law_parts" spParts [] := by
  obtain ⟨f, fd, a⟩ := a
  refine a.cal sc51 (fun vs H Q E h => ?_) (fun cdv A outer s H vs Q E hr h => ?_)
  · obtain ⟨a, rfl, _⟩ := h
    rfl
  · obtain ⟨pt, rfl, hp, k⟩ := h
    refine ⟨_, pss_cons (ps_set (i := 2) sc51.nd rfl (Or.inl rfl) (pe_op op_add pe_int (C8.pe_c c1 hr (by decide) (by rfl) (pa_cons (pv 0) (pa_cons (pe_op op_sub (pv 1) pe_int) pa_nil)))))
      (pss_one (ps_ret (pe_tup (pa_cons (pv 2) (pa_cons (C8.pe_c c2 hr (by decide) (by rfl) (pa_cons (pv 0) (pa_cons (pv 2) (pa_cons pe_int pa_nil)))) (pa_cons (C8.pe_c c2 hr (by decide) (by rfl) (pa_cons (pv 0) (pa_cons (pv 2) (pa_cons pe_int pa_nil)))) pa_nil)))))), ?_⟩
    refine ⟨_, rfl, _, rfl, _, _, rfl, rfl, pt, 4, rfl, hp, by decide, by decide, fun H1 r b1 p1 hr1 => ⟨_, _, rfl, rfl, ?_⟩⟩
    have e2 : (2 : Int) + (r : Int) = ((2 + r : Nat) : Int) := by omega
    refine ⟨_, rfl, _, rfl, _, rfl, pt, 2 + r, 4, ?_, p1, by omega, by omega, by decide, fun H2 D es b2 p2 k2 => ?_⟩
    · show [V.ref pt, V.int ((2 : Int) + (r : Int)), V.int 4] = _
      rw [e2]
      rfl
    refine ⟨_, rfl, _, rfl, pt, 2 + r, 3, ?_, p2, by omega, by omega, by decide, fun H3 S fs b3 p3 k3 => ?_⟩
    · show [V.ref pt, V.int ((2 : Int) + (r : Int)), V.int 3] = _
      rw [e2]
      rfl
    refine ⟨by show 3 ≤ sizeLine; decide, fun t ht => ?_⟩
    have s4 := Same.new (o := .tup [.int ((2 : Int) + (r : Int)), .ref D, .ref S]) ht
    have pn := hp.here
    have fr : ∀ {x : Addr}, H1 x = none → H x = none := fun h => b1.free p1.here h
    have kD : KindsAt H1 H3 D es (2 + r) := k2.but p1.here b3
    have b12 : But pt H1 H2 := b2
    refine k _ t D S (2 + r) es fs (b1.trans (b2.trans (b3.trans (But.of s4)))) (p3.same s4) ?_ (by omega) (by omega)
      ⟨fr kD.q0, s4 _ _ kD.at_, fun e he => let ⟨h1, h2, h3⟩ := kD.kind e he; ⟨fr h1, s4 _ _ h2, h3⟩, kD.few⟩
      ⟨fr (b2.free p2.here k3.q0), s4 _ _ k3.at_, fun e he => let ⟨h1, h2, h3⟩ := k3.kind e he; ⟨fr (b2.free p2.here h1), s4 _ _ h2, h3⟩, k3.few⟩
    rw [← e2]
    exact upd_same
end
end K22
/-! the law's own closure: _law_laid, _law_off, _law_closed, _law_all_lots. -/
namespace K22
open PySem PySem.Spec L2
theorem told_of_rise {l : List Nat} (h : l.Pairwise (· < ·)) (h8 : ∀ i ∈ l, i < 8) : l = told (bitsN l) :=
  rising_told (bitsN_lt (n := 8) h8) h fun i => by
    rw [testBit_bitsN]
    exact (decide_eq_true_iff).symm
theorem told_or {x : Nat} {l m : List Nat} (hx : x < 256) (h8 : ∀ i ∈ l, i < 8) (hm : m.Pairwise (· < ·)) (mm : ∀ i, i ∈ m ↔ i ∈ told x ∨ i ∈ l) : m = told (x ||| bitsN l) :=
  rising_told (Nat.or_lt_two_pow (n := 8) hx (bitsN_lt (n := 8) h8)) hm fun i => by
    rw [mm, mem_told hx, Nat.testBit_or, testBit_bitsN, Bool.or_eq_true, decide_eq_true_iff]
theorem told_less {x : Nat} {l m : List Nat} (hx : x < 256) (hm : m.Pairwise (· < ·)) (mm : ∀ i, i ∈ m ↔ i ∈ told x ∧ i ∉ l) : m = told (lessB x (bitsN l)) :=
  rising_told (lessB_lt (n := 8) hx) hm fun i => by
    rw [mm, mem_told hx, testBit_lessB, testBit_bitsN, Bool.and_eq_true, Bool.not_eq_true', decide_eq_false_iff_not]
/-- ints that are sorted and are unlike places -/
theorem sorted_nat {ns : List Int} {m : List Nat} (pm : ns.Perm (zs m)) (hs : ns.Pairwise (· ≤ ·)) (nd : m.Nodup) : ∃ r : List Nat, ns = zs r ∧ r.Pairwise (· < ·) ∧ ∀ i, i ∈ r ↔ i ∈ m := by
  obtain ⟨r, pr, rfl⟩ := perm_map_inv (fun (i : Nat) => (i : Int)) pm m rfl
  refine ⟨r, rfl, ?_, fun i => pr.mem_iff⟩
  have h1 := List.pairwise_map.mp hs
  have h2 : r.Nodup := pr.nodup_iff.mpr nd
  exact (h1.and h2).imp fun ⟨a, b⟩ => by omega
def spLaid (g : Nat → Nat → Nat) : Sp := fun vs H Q _ => ∃ (a c : Addr) (x : Nat) (l : List Nat), vs = [.ref a, .ref c] ∧ H a = some (.lst (nv (told x))) ∧ x < 256 ∧ H c = some (.lst (nv l)) ∧ KindL l 8 ∧
  ∀ (H' : Hp) (q : Addr), Same H H' → H q = none → H' q = some (.lst (nv (told (g x (bitsN l))))) → Q (.ref q) H'
section
variable {P : Program} {w : World} {K : PySem.W.Frag} {mg : Str → Option Value} {base : Heap} {C : Addr}
abbrev N52 : List Str := ["_law_lot", "_law_kind_here", "_law_shelf"]
theorem sc52 : FnScope N52 ["_law_lot", "_law_kind_here"] (defScope (top 52)) := ⟨rfl, rfl, rfl, by decide +kernel, rfl, by decide +kernel, by decide +kernel⟩
theorem told_len (x : Nat) : (told x).length ≤ 8 := nodup_le (told_nodup x) fun i h => told_lt h
theorem ok_laid (T : Txt mg) (a : IsAt K mg "_law_laid" 52 ["_law_lot", "_law_kind_here"]) : C8.Cal P w K mg base 1 "_law_laid" (spLaid (· ||| ·)) [] := by
  obtain ⟨f, fd, a⟩ := a
  refine a.cal sc52 (fun vs H Q E h => ?_) (fun cdv A outer s H vs Q E hr h => ?_)
  · obtain ⟨a, c, x, l, rfl, _⟩ := h
    rfl
  · obtain ⟨a, c, x, l, rfl, ha, hx, hc, kl, k⟩ := h
    have ll := kl.good.length
    refine ⟨_, pss_one (ps_ret (pe_callB cr_sorted (by rfl) T.sorted (by decide +kernel) (pa_cons (pe_op op_cat (pv 0)
      (pe_lc (own := [("_law_shelf", 2)]) (by rfl) sc52.nd (pi_list (pv 1)) (blkOk_by (N := N52) (sc := defScope (top 52)) (by decide +kernel)) (fun _ _ _ _ _ => pg_name (i := 2) sc52.nd rfl (Or.inl rfl))
        (fun _ _ _ _ _ => show PTs _ _ _ from pts_one (show PT _ _ (tTest (tOp (rIn K true) (tVar 2) (tVar 0))) from pt_cmpR op_notIn_seq (pv 2) (pv 0) (by with_unfolding_all rfl))) (fun _ _ _ _ _ => pv 2))) pa_nil))), ?_⟩
    refine ⟨_, rfl, _, rfl, c, rfl, ⟨_, SqL.of hc⟩, fun D hD => filt_it (j := 2) (walk_list (K := K) (a := c) (xs := nv l)) hD (fun H' s => s.seq (SqL.of hc)) (by rw [nv_length]; omega) (by show 2 < 3; decide) (fun _ => rfl) (fun v => !decide (v ∈ nv (told x))) ?_ ?_⟩
    · intro i y H9 Q2 hy s9 q2
      obtain ⟨j, hj, rfl⟩ := nv_get hy
      refine ⟨_, rfl, _, rfl, a, nv (told x), rfl, .inl (SqL.of (s9 _ _ ha)), rfl, nv_flat _, _, rfl, ?_⟩
      show Q2 (!inV (.int (j : Int)) (nv (told x))) H9
      rw [nv_in]
      have e : decide (V.int (j : Int) ∈ nv (told x)) = decide (j ∈ told x) := decide_eq_decide.mpr nv_mem
      rw [e] at q2
      exact q2
    · intro H1 s1 e1
      rw [filter_nv] at e1
      have tl := told_len x
      have fl := List.length_filter_le (fun i => !decide (i ∈ told x)) l
      refine ⟨a, D, _, _, rfl, rfl, s1 _ _ ha, e1, ?_, fun q hq => ?_⟩
      · rw [nv_length, nv_length]
        exact Nat.le_trans (by omega : (told x).length + (l.filter fun i => !decide (i ∈ told x)).length ≤ 1000) (by decide)
      · rw [← nv_append]
        refine ⟨q, zs (told x ++ l.filter fun i => !decide (i ∈ told x)), rfl, SqL.of upd_same, by rw [zs_length, List.length_append]; omega, fun ns p pm hs hp => ?_⟩
        have mm : ∀ i, i ∈ told x ++ (l.filter fun i => !decide (i ∈ told x)) ↔ i ∈ told x ∨ i ∈ l := fun i => by
          rw [List.mem_append, List.mem_filter, Bool.not_eq_true', decide_eq_false_iff_not]
          constructor
          · rintro (h | h)
            · exact .inl h
            · exact .inr h.1
          · rintro (h | h)
            · exact .inl h
            · by_cases z : i ∈ told x
              · exact .inl z
              · exact .inr ⟨h, z⟩
        have nd : (told x ++ l.filter fun i => !decide (i ∈ told x)).Nodup := by
          rw [List.nodup_append]
          refine ⟨told_nodup x, kl.good.1.filter _, fun i hi j hj e => ?_⟩
          rw [List.mem_filter, Bool.not_eq_true', decide_eq_false_iff_not] at hj
          exact hj.2 (e ▸ hi)
        obtain ⟨r, rfl, hr2, hm⟩ := sorted_nat pm hs nd
        have er := told_or hx kl.lt hr2 fun i => (hm i).trans (mm i)
        have s2 := s1.trans ((Same.new hq).trans (Same.new (o := .lst ((zs r).map V.int)) hp))
        refine k _ p s2 ((s1.trans (Same.new hq)).free hp) ?_
        rw [upd_same, ← er]
abbrev N53 : List Str := ["_law_lot", "_law_kind_here", "_law_shelf"]
theorem sc53 : FnScope N53 ["_law_lot", "_law_kind_here"] (defScope (top 53)) := ⟨rfl, rfl, rfl, by decide +kernel, rfl, by decide +kernel, by decide +kernel⟩
theorem ok_off (a : IsAt K mg "_law_off" 53 ["_law_lot", "_law_kind_here"]) : C8.Cal P w K mg base 1 "_law_off" (spLaid lessB) [] := by
  obtain ⟨f, fd, a⟩ := a
  refine a.cal sc53 (fun vs H Q E h => ?_) (fun cdv A outer s H vs Q E hr h => ?_)
  · obtain ⟨a, c, x, l, rfl, _⟩ := h
    rfl
  · obtain ⟨a, c, x, l, rfl, ha, hx, hc, kl, k⟩ := h
    refine ⟨_, pss_one (ps_ret
      (pe_lc (own := [("_law_shelf", 2)]) (by rfl) sc53.nd (pi_list (pv 0)) (blkOk_by (N := N53) (sc := defScope (top 53)) (by decide +kernel)) (fun _ _ _ _ _ => pg_name (i := 2) sc53.nd rfl (Or.inl rfl))
        (fun _ _ _ _ _ => show PTs _ _ _ from pts_one (show PT _ _ (tTest (tOp (rIn K true) (tVar 2) (tVar 1))) from pt_cmpR op_notIn_seq (pv 2) (pv 1) (by with_unfolding_all rfl))) (fun _ _ _ _ _ => pv 2))), ?_⟩
    have tl := told_len x
    refine ⟨_, rfl, a, rfl, ⟨_, SqL.of ha⟩, fun D hD => filt_it (j := 2) (walk_list (K := K) (a := a) (xs := nv (told x))) hD (fun H' s => s.seq (SqL.of ha)) (by rw [nv_length]; omega) (by show 2 < 3; decide) (fun _ => rfl) (fun v => !decide (v ∈ nv l)) ?_ ?_⟩
    · intro i y H9 Q2 hy s9 q2
      obtain ⟨j, hj, rfl⟩ := nv_get hy
      refine ⟨_, rfl, _, rfl, c, nv l, rfl, .inl (SqL.of (s9 _ _ hc)), rfl, nv_flat _, _, rfl, ?_⟩
      show Q2 (!inV (.int (j : Int)) (nv l)) H9
      rw [nv_in]
      have e : decide (V.int (j : Int) ∈ nv l) = decide (j ∈ l) := decide_eq_decide.mpr nv_mem
      rw [e] at q2
      exact q2
    · intro H1 s1 e1
      rw [filter_nv] at e1
      refine k _ D s1 hD ?_
      rw [e1]
      rw [told_less (l := l) hx ((told_rising x).filter fun i => !decide (i ∈ l)) fun i => by rw [List.mem_filter, Bool.not_eq_true', decide_eq_false_iff_not]]
abbrev N55 : List Str := ["_law_shelves", "_law_found", "_law_shelf", "_law_lot"]
theorem sc55 : FnScope N55 ["_law_shelves"] (defScope (top 55)) := ⟨rfl, rfl, rfl, by decide +kernel, rfl, by decide +kernel, by decide +kernel⟩
def spAllLots : Sp := fun vs H Q _ => ∃ (n : Nat), vs = [.int n] ∧ n ≤ 8 ∧ ∀ (H' : Hp) (q : Addr) (es : List (Addr × Nat)), Same H H' → H' q = some (.lst (refs es)) → es.length ≤ 256 → (∀ e ∈ es, H' e.1 = some (.lst (nv (told e.2))) ∧ e.2 < 2 ^ n) → Q (.ref q) H'
theorem told_snoc {b i : Nat} (hb : b < 2 ^ i) (hi : i < 8) : ∃ c, c < 2 ^ (i + 1) ∧ told b ++ [i] = told c := by
  have hb2 : b < 256 := Nat.lt_of_lt_of_le hb (pow_le_256 (by omega))
  have lt : ∀ j ∈ told b, j < i := fun j hj => told_lt_n hb hj
  refine ⟨bitsN (told b ++ [i]), bitsN_lt fun j hj => ?_, told_of_rise ?_ fun j hj => ?_⟩
  · rcases List.mem_append.mp hj with h | h
    · exact Nat.lt_succ_of_lt (lt j h)
    · rw [List.mem_singleton.mp h]
      exact Nat.lt_succ_self _
  · rw [List.pairwise_append]
    refine ⟨told_rising b, List.pairwise_singleton _ _, fun a ha c hc => ?_⟩
    rw [List.mem_singleton.mp hc]
    exact lt a ha
  · rcases List.mem_append.mp hj with h | h
    · exact Nat.lt_trans (lt j h) hi
    · rw [List.mem_singleton.mp h]
      exact hi
theorem ok_all_lots (T : Txt mg) (a : IsAt K mg "_law_all_lots" 55 ["_law_shelves"]) : C8.Cal P w K mg base 1 "_law_all_lots" spAllLots [] := by
  obtain ⟨f, fd, a⟩ := a
  refine a.cal sc55 (fun vs H Q E h => ?_) (fun cdv A outer s H vs Q E hr h => ?_)
  · obtain ⟨n, rfl, _⟩ := h
    rfl
  · obtain ⟨n, rfl, n8, k⟩ := h
    refine ⟨_, pss_cons (ps_set (i := 1) sc55.nd rfl (Or.inl rfl) (pe_lst (pa_cons (pe_lst pa_nil) pa_nil)))
      (pss_cons (ps_for PassesOwn.never rfl (pi_range1 (by rfl) T.range (pa_cons (pv 0) pa_nil)) (pg_name (i := 2) sc55.nd rfl (Or.inr rfl))
        (pss_one (ps_set (i := 1) sc55.nd rfl (Or.inl rfl) (pe_op op_cat (pv 1)
          (pe_lc (own := [("_law_lot", 3)]) (by rfl) sc55.nd (pi_list (pv 1)) (blkOk_by (N := N55) (sc := defScope (top 55)) (by decide +kernel)) (fun _ _ _ _ _ => pg_name (i := 3) sc55.nd rfl (Or.inl rfl)) (fun _ _ _ _ _ => pts_nil)
            (fun _ _ _ _ _ => pe_op op_cat (pv 3) (pe_lst (pa_cons (pv 2) pa_nil))))))))
      (pss_one (ps_ret (pv 1)))), ?_⟩
    refine ⟨Nat.zero_le _, fun l0 hl0 => ⟨by show 1 ≤ sizeLine; decide, fun l1 hl1 => ?_⟩⟩
    refine ⟨_, rfl, n, rfl, by omega, by omega, ?_⟩
    refine for_range (lo := 0) (n := n) (fun i σ H' => i ≤ n ∧ ∃ (es : List (Addr × Nat)) (g : Addr) (u v : Option V), σ = [some (.int (n : Nat)), some (.ref g), u, v] ∧ Same H H' ∧ H' g = some (.lst (refs es)) ∧ es.length = 2 ^ i ∧ ∀ e ∈ es, H' e.1 = some (.lst (nv (told e.2))) ∧ e.2 < 2 ^ i)
      ⟨Nat.zero_le _, [(l0, 0)], l1, none, none, rfl, (Same.new hl0).trans (Same.new hl1), upd_same, rfl, fun e he => ?_⟩ ?_ ?_
    · rw [List.mem_singleton.mp he]
      refine ⟨?_, Nat.one_pos⟩
      rw [told_zero]
      exact (Same.new hl1) _ _ upd_same
    · rintro i σ H1 hi ⟨_, es, g, u, v, rfl, s1, e1, le, each⟩
      have p256 : 2 ^ i ≤ 2 ^ 7 := Nat.pow_le_pow_right (by decide) (by omega)
      have p7 : (2 : Nat) ^ 7 = 128 := rfl
      refine ⟨_, rfl, ?_⟩
      dsimp only [tOp, tAsg]
      refine map_list (xs := refs es) (fun R h => ⟨_, rfl, h H1 g (Same.refl _) e1⟩) (by rw [List.length_map]; omega) (fun _ => rfl)
        (fun D j y H2 => ∃ (e : Addr × Nat) (r : Addr), es[j]? = some e ∧ y = .ref r ∧ r ≠ D ∧ H2 r = some (.lst (nv (told e.2 ++ [i])))) (fun D j y Ha Hb bt ⟨e, r, h1, h2, h3, h4⟩ => ⟨e, r, h1, h2, h3, bt _ _ h4 h3⟩) ?_ ?_
      · intro D j x H2 Q2 hx s2 hD2 kk
        obtain ⟨e, he1, he2, rfl⟩ := refs_get hx
        have h3 := (each e he2).1
        refine ⟨_, rfl, _, rfl, by show 1 ≤ sizeLine; decide, fun l hl => ⟨e.1, l, _, _, rfl, rfl, (Same.new hl) _ _ (s2 _ _ h3), upd_same, ?_, fun q hq => ?_⟩⟩
        · have := told_len e.2
          rw [nv_length]
          exact Nat.le_trans (by simp only [List.length_cons, List.length_nil]; omega : (told e.2).length + [V.int (0 + (i : Int))].length ≤ 1000) (by decide)
        · refine kk _ _ ((Same.new hl).trans (Same.new hq)) ⟨e, q, he1, rfl, fun z => ?_, ?_⟩
          · rw [z] at hq
            exact hD2 ((Same.new hl).free hq)
          · rw [upd_same, nv_snoc, Int.zero_add]
      · intro D H2 ys hD s2 hD2 ly hy
        rw [List.length_map] at ly
        obtain ⟨gs, rfl, hg1, hg2⟩ := pairs_of (R := fun r (e : Addr × Nat) => H2 r = some (.lst (nv (told e.2 ++ [i])))) (ys := ys) (ls := es) ly fun j y e hy1 he1 => by
          obtain ⟨e2, r, h1, h2, _, h4⟩ := hy j y hy1
          rw [he1] at h1
          cases h1
          exact ⟨r, h2, h4⟩
        have lg : gs.length = es.length := by rw [← hg1, List.length_map]
        refine ⟨g, D, _, _, rfl, rfl, s2 _ _ e1, hD2, ?_, fun q hq => ?_⟩
        · rw [List.length_map, List.length_map]
          exact Nat.le_trans (by omega : es.length + gs.length ≤ 1000) (by decide)
        · have hc : ∀ e ∈ gs, ∃ c, c < 2 ^ (i + 1) ∧ told e.2.2 ++ [i] = told c := fun e he => told_snoc (each e.2 (by rw [← hg1]; exact List.mem_map.mpr ⟨e, he, rfl⟩)).2 (by omega)
          have s3 := Same.new (o := .lst (refs es ++ refs gs)) hq
          refine ⟨hi, es ++ gs.map (fun e => (e.1, bitsN (told e.2.2 ++ [i]))), q, _, _, rfl, s1.trans (s2.trans s3), ?_, ?_, fun e he => ?_⟩
          · rw [upd_same]
            unfold refs
            rw [List.map_append, List.map_map]
            rfl
          · rw [List.length_append, List.length_map, lg, le]
            omega
          · rcases List.mem_append.mp he with h | h
            · exact ⟨s3 _ _ (s2 _ _ (each e h).1), Nat.lt_of_lt_of_le (each e h).2 (by omega)⟩
            · obtain ⟨e0, he0, rfl⟩ := List.mem_map.mp h
              obtain ⟨c, hc1, hc2⟩ := hc e0 he0
              have p28 : 2 ^ (i + 1) ≤ 256 := by omega
              have eb : bitsN (told e0.2.2 ++ [i]) = c := by rw [hc2, bitsN_told (by omega)]
              refine ⟨?_, by show bitsN (told e0.2.2 ++ [i]) < _; rw [eb]; exact hc1⟩
              show (upd H2 q _) e0.1 = some (.lst (nv (told (bitsN (told e0.2.2 ++ [i])))))
              rw [eb, ← hc2]
              exact s3 _ _ (hg2 e0 he0)
    · rintro σ H1 ⟨_, es, g, u, v, rfl, s1, e1, le, each⟩
      exact ⟨_, rfl, k H1 g es s1 e1 (by rw [le]; exact pow_le_256 n8) each⟩
end
end K22
/-! the law's own closure: _law_closed. -/
namespace K22
open PySem PySem.Spec L2
/-- kinds as they stand -/
structure KRow (H : Hp) (a : Addr) (es : List (Addr × List Nat)) (n : Nat) : Prop where
  at_ : H a = some (.lst (refs es))
  few : es.length ≤ 8
  kind : ∀ e ∈ es, H e.1 = some (.lst (nv e.2)) ∧ KindL e.2 n
theorem KRow.same {H H' : Hp} {a : Addr} {es : List (Addr × List Nat)} {n : Nat} (k : KRow H a es n) (s : Same H H') : KRow H' a es n :=
  ⟨s _ _ k.at_, k.few, fun e he => ⟨s _ _ (k.kind e he).1, (k.kind e he).2⟩⟩
theorem KRow.lt {H : Hp} {a : Addr} {es : List (Addr × List Nat)} {n : Nat} (k : KRow H a es n) : ∀ b ∈ bitsOf es, b < 2 ^ n := bits_lt fun e he => (k.kind e he).2.good
theorem KindL.mono {l : List Nat} {n m : Nat} (k : KindL l n) (h : n ≤ m) : KindL l m := ⟨k.rise, fun i hi => Nat.lt_of_lt_of_le (k.lt i hi) h, k.ne⟩
def spLawClosed : Sp := fun vs H Q _ => ∃ (a c b : Addr) (n : Nat) (es fs ls : List (Addr × List Nat)), vs = [.ref a, .ref c, .ref b] ∧ n ≤ 8 ∧ KRow H a es n ∧ KRow H c fs n ∧ KRow H b ls n ∧
  ∀ (H' : Hp) (q : Addr) (rs : List (Addr × Nat)), Same H H' → NewLots H H' q rs → (∀ x, x ∈ rs.map (·.2) ↔ Cl (bitsOf es) (bitsOf fs) (· ∈ bitsOf ls) x) → Q (.ref q) H'
theorem dpTold {K : PySem.W.Frag} {H : Hp} {a : Addr} {ws : List (Addr × Nat)} (h : H a = some (.lst (refs ws))) (he : ∀ e ∈ ws, H e.1 = some (.lst (nv (told e.2)))) : Dp K H (.ref a) (rowsD (ws.map fun e => zs (told e.2))) := by
  have h2 := dpNv (K := K) (H := H) (a := a) (es := ws.map fun e => (e.1, told e.2)) (by unfold refs; rw [List.map_map]; exact h) fun e h1 => by
    obtain ⟨e0, h2, rfl⟩ := List.mem_map.mp h1
    exact he e0 h2
  rw [List.map_map] at h2
  exact h2
section
variable {P : Program} {w : World} {K : PySem.W.Frag} {mg : Str → Option Value} {base : Heap} {C : Addr}
abbrev N54 : List Str := ["_law_deliveries", "_law_sales", "_law_lots", "_law_found", "_law_left", "_law_lot", "_law_kind_here"]
theorem sc54 : FnScope N54 ["_law_deliveries", "_law_sales", "_law_lots"] (defScope (top 54)) := ⟨rfl, rfl, rfl, by decide +kernel, rfl, by decide +kernel, by decide +kernel⟩
/-- [f(lot, kind) for kind in kinds] -/
theorem map_laid {K : PySem.W.Frag} {σ : L2.St} {H : Hp} {Q : VK} {g : Nat → Nat → Nat} {a la : Addr} {x n m : Nat} {es : List (Addr × List Nat)} (hk : KRow H a es n) (n8 : n ≤ 8) (hla : H la = some (.lst (nv (told x)))) (hx : x < 256) (hl : σ.length = 7) (hm : σ[m]? = some (some (.ref a))) (h5 : σ[5]? = some (some (.ref la)))
    (hd : ∀ (D : Addr) (H' : Hp) (gs : List (Addr × Nat)), H D = none → Same H H' → H' D = some (.lst (refs gs)) → gs.length = es.length → gs.map (·.2) = (bitsOf es).map (g x) → (∀ e ∈ gs, H e.1 = none ∧ H' e.1 = some (.lst (nv (told e.2)))) → Q (.ref D) H') :
    tLc (iList K (tVar m)) (gName 6) tYes (tCall (spLaid g) [] C8.E0 (tCons (tVar 5) (tCons (tVar 6) tNil))) [6] σ H Q := by
  have few := hk.few
  have e6 : ∀ v : V, (((wipe σ [6]).set 6 (some v))[5]?) = some (some (.ref la)) := fun v => by
    show ((σ.set 6 none).set 6 (some v))[5]? = _
    rw [List.getElem?_set_ne (by decide), List.getElem?_set_ne (by decide)]
    exact h5
  have e7 : ∀ v : V, (((wipe σ [6]).set 6 (some v))[6]?) = some (some v) := fun v => by
    show ((σ.set 6 none).set 6 (some v))[6]? = _
    rw [List.getElem?_set_self (by rw [List.length_set, hl]; decide)]
  refine map_list (xs := refs es) (fun R h => ⟨_, hm, h H a (Same.refl _) hk.at_⟩) (by rw [List.length_map]; omega) (fun v => ?_)
    (fun D j y H2 => ∃ (e : Addr × List Nat) (r : Addr), es[j]? = some e ∧ y = .ref r ∧ r ≠ D ∧ H r = none ∧ H2 r = some (.lst (nv (told (g x (bitsN e.2)))))) (fun D j y Ha Hb bt ⟨e, r, h1, h2, h3, h4, h5⟩ => ⟨e, r, h1, h2, h3, h4, bt _ _ h5 h3⟩) ?_ ?_
  · show ((σ.set 6 none).set 6 (some v)).set 6 none = σ.set 6 none
    rw [List.set_set, List.set_set]
  · intro D j y H2 Q2 hy s2 hD2 kk
    obtain ⟨e, he1, he2, rfl⟩ := refs_get hy
    obtain ⟨h1, h2⟩ := hk.kind e he2
    exact ⟨_, e6 _, _, e7 _, la, e.1, x, e.2, rfl, s2 _ _ hla, hx, s2 _ _ h1, h2.mono n8, fun H3 q s3 hq e3 => kk _ H3 s3 ⟨e, q, he1, rfl, fun z => hD2 (by rw [← z]; exact hq), s2.free hq, e3⟩⟩
  · intro D H2 ys hD s2 hD2 ly hy
    rw [List.length_map] at ly
    obtain ⟨gs, rfl, hg1, hg2⟩ := pairs_of (R := fun r (b : Nat) => H r = none ∧ H2 r = some (.lst (nv (told b)))) (ys := ys) (ls := (bitsOf es).map (g x)) (by rw [ly, List.length_map, List.length_map]) fun j y b hy1 hb => by
      obtain ⟨e2, r, h1, h2, _, h4⟩ := hy j y hy1
      rw [List.getElem?_map, List.getElem?_map, h1] at hb
      cases hb
      exact ⟨r, h2, h4⟩
    rw [List.length_map] at ly
    exact hd D H2 gs hD s2 hD2 ly hg1 hg2
theorem ok_law_closed (T : Txt mg) (a : IsAt K mg "_law_closed" 54 ["_law_deliveries", "_law_sales", "_law_lots"]) (c1 : C8.Cal P w K mg base 1 "_law_laid" (spLaid (· ||| ·)) []) (c2 : C8.Cal P w K mg base 1 "_law_off" (spLaid lessB) []) :
    C8.Cal P w K mg base 2 "_law_closed" spLawClosed [] := by
  obtain ⟨f, fd, a⟩ := a
  refine a.cal sc54 (fun vs H Q E h => ?_) (fun cdv A outer s H vs Q E hr h => ?_)
  · obtain ⟨a, c, b, n, es, fs, ls, rfl, _⟩ := h
    rfl
  · obtain ⟨a, c, b, n, es, fs, ls, rfl, n8, ka, kc, kb, k⟩ := h
    have hun : A.units + 3 + 16 * 1 + 200 < cLine := hr.un
    have hu : A.units + 3 + 64 < cLine := by omega
    have hu5 : A.units + 3 + 65 < cLine := by omega
    have p256 : 2 ^ n ≤ 256 := pow_le_256 n8
    refine ⟨_, pss_cons (ps_par (i := 3) (j := 4) rfl sc54.nd rfl rfl (by decide) rfl rfl (pa_cons (pe_lst pa_nil) (pa_cons (pe_op op_cat (pe_lst (pa_cons (pe_lst pa_nil) pa_nil))
        (pe_lc (own := [("_law_lot", 5)]) (by rfl) sc54.nd (pi_list (pv 2)) (blkOk_by (N := N54) (sc := defScope (top 54)) (by decide +kernel)) (fun _ _ _ _ _ => pg_name (i := 5) sc54.nd rfl (Or.inl rfl)) (fun _ _ _ _ _ => pts_nil)
          (fun _ _ _ _ _ => show PE _ _ (tCB (rSorted K) (tCons (tVar 5) tNil)) from pe_callB cr_sorted (by rfl) T.sorted (by decide +kernel) (pa_cons (pv 5) pa_nil)))) pa_nil)) (by rfl))
      (pss_cons (ps_while PassesOwn.never (pt_cmpR (op_neD hu) (pv 4) (pe_lst pa_nil) (nomark _))
        (pss_cons (ps_set (i := 5) sc54.nd rfl (Or.inr rfl) (pe_bm0 PySem.F.plainAttrs_list PySem.F.slot_list_pop PySem.F.type_list_pop mt_pop (pv 4)))
        (pss_one (ps_if (pt_cmpR (op_notInD hu5) (pv 5) (pv 3) (by with_unfolding_all rfl))
          (pss_cons (ps_expr (pe_bm PySem.F.plainAttrs_list PySem.F.slot_list_append PySem.F.type_list_append mt_append (pv 3) (pa_cons (pv 5) pa_nil)))
          (pss_one (ps_expr (pe_bm PySem.F.plainAttrs_list PySem.F.slot_list_extend PySem.F.type_list_extend mt_extend (pv 4) (pa_cons (pe_op op_cat
            (pe_lc (own := [("_law_kind_here", 6)]) (by rfl) sc54.nd (pi_list (pv 0)) (blkOk_by (N := N54) (sc := defScope (top 54)) (by decide +kernel)) (fun _ _ _ _ _ => pg_name (i := 6) sc54.nd rfl (Or.inl rfl)) (fun _ _ _ _ _ => pts_nil)
              (fun _ _ _ _ _ => C8.pe_c c1 hr (by decide) (by rfl) (pa_cons (pv 5) (pa_cons (pv 6) pa_nil))))
            (pe_lc (own := [("_law_kind_here", 6)]) (by rfl) sc54.nd (pi_list (pv 1)) (blkOk_by (N := N54) (sc := defScope (top 54)) (by decide +kernel)) (fun _ _ _ _ _ => pg_name (i := 6) sc54.nd rfl (Or.inl rfl)) (fun _ _ _ _ _ => pts_nil)
              (fun _ _ _ _ _ => C8.pe_c c2 hr (by decide) (by rfl) (pa_cons (pv 5) (pa_cons (pv 6) pa_nil))))) pa_nil)))))
          pss_nil))))
      (pss_one (ps_ret (pe_callB (cr_sortL hu) (by rfl) T.sorted (by decide +kernel) (pa_cons (pv 3) pa_nil))))), ?_⟩
    refine ⟨Nat.zero_le _, fun fd hfd => ⟨Nat.zero_le _, fun l0 hl0 => ⟨by show 1 ≤ sizeLine; decide, fun l1 hl1 => ?_⟩⟩⟩
    have s1 := (Same.new (o := .lst []) hfd).trans ((Same.new (o := .lst []) hl0).trans (Same.new (o := .lst [.ref l0]) hl1))
    have f1 := ((Same.new (o := .lst []) hl0).trans (Same.new (o := .lst [.ref l0]) hl1)) _ _ (upd_same (H := H) (a := fd))
    have e0 := (Same.new (o := .lst [.ref l0]) hl1) _ _ (upd_same (H := upd H fd (.lst [])) (a := l0))
    have l0H : H l0 = none := (Same.new hfd).free hl0
    have l0f : l0 ≠ fd := fun z => by
      rw [z, upd_same] at hl0
      cases hl0
    have e1 : (upd (upd (upd H fd (.lst [])) l0 (.lst [])) l1 (.lst [.ref l0])) l1 = some (.lst [.ref l0]) := upd_same
    have l01 : l0 ≠ l1 := fun z => by
      rw [z, upd_same] at hl1
      cases hl1
    generalize upd (upd (upd H fd (.lst [])) l0 (.lst [])) l1 (.lst [.ref l0]) = H1 at s1 f1 e0 e1 ⊢
    have kb1 := kb.same s1
    have few := kb.few
    refine map_list (xs := refs ls) (fun R h => ⟨_, rfl, h H1 b (Same.refl _) kb1.at_⟩) (by rw [List.length_map]; omega) (fun _ => rfl)
      (fun D j y H2 => ∃ (e : Addr × List Nat) (r : Addr), ls[j]? = some e ∧ y = .ref r ∧ r ≠ D ∧ H1 r = none ∧ H2 r = some (.lst (nv (told (bitsN e.2))))) (fun D j y Ha Hb bt ⟨e, r, h1, h2, h3, h4, h5⟩ => ⟨e, r, h1, h2, h3, h4, bt _ _ h5 h3⟩) ?_ ?_
    · intro D j y H2 Q2 hy s2 hD2 kk
      obtain ⟨e, he1, he2, rfl⟩ := refs_get hy
      obtain ⟨h1, h2⟩ := kb1.kind e he2
      have gl := h2.good.length
      refine ⟨_, rfl, e.1, zs e.2, rfl, SqL.of (s2 _ _ h1), by rw [zs_length]; omega, fun ns p pm hs hp => ?_⟩
      obtain ⟨r, rfl, hr1, hr2⟩ := sorted_nat pm hs h2.good.1
      have er : r = told (bitsN e.2) := rising_told (bitsN_lt (n := 8) (h2.mono n8).lt) hr1 fun i => by
        rw [hr2, testBit_bitsN, decide_eq_true_iff]
      refine kk _ _ (Same.new hp) ⟨e, p, he1, rfl, fun z => hD2 (by rw [← z]; exact hp), s2.free hp, ?_⟩
      rw [upd_same, ← er]
    intro D H2 ys hD s2 hD2 ly hy
    rw [List.length_map] at ly
    obtain ⟨gs, rfl, hg1, hg2⟩ := pairs_of (R := fun r (b : Nat) => H1 r = none ∧ H2 r = some (.lst (nv (told b)))) (ys := ys) (ls := bitsOf ls) (by rw [ly, List.length_map]) fun j y b hy1 hb => by
      obtain ⟨e2, r, h1, h2, _, h4⟩ := hy j y hy1
      rw [List.getElem?_map, h1] at hb
      cases hb
      exact ⟨r, h2, h4⟩
    rw [List.length_map] at ly
    refine ⟨l1, D, _, _, rfl, rfl, s2 _ _ e1, hD2, ?_, fun wd hwd => ⟨_, _, rfl, ?_⟩⟩
    · rw [List.length_map]
      exact Nat.le_trans (by simp only [List.length_cons, List.length_nil]; omega : [V.ref l0].length + gs.length ≤ 1000) (by decide)
    have s3 := Same.new (o := .lst ([.ref l0] ++ refs gs)) hwd
    have w3 : (upd H2 wd (.lst ([.ref l0] ++ refs gs))) wd = some (.lst (refs ((l0, 0) :: gs))) := upd_same
    generalize upd H2 wd (.lst ([.ref l0] ++ refs gs)) = H3 at s3 w3 ⊢
    have s13 := s2.trans s3
    have wdH : H wd = none := (s1.trans s2).free hwd
    have nfw : fd ≠ wd := ne_of_none (s2 _ _ f1) hwd
    have D8 : (bitsOf es).length ≤ 8 := by rw [List.length_map]; exact ka.few
    have S8 : (bitsOf fs).length ≤ 8 := by rw [List.length_map]; exact kc.few
    refine ⟨fun m σ H' => ∃ (xs ws : List (Addr × Nat)) (u v : Option V), σ = [some (.ref a), some (.ref c), some (.ref b), some (.ref fd), some (.ref wd), u, v] ∧ Same H H' ∧ H' fd = some (.lst (refs xs)) ∧ H' wd = some (.lst (refs ws)) ∧
        (∀ e, e ∈ xs ∨ e ∈ ws → e.1 ≠ fd ∧ e.1 ≠ wd ∧ H e.1 = none ∧ H' e.1 = some (.lst (nv (told e.2)))) ∧ Work (bitsOf es) (bitsOf fs) (· ∈ bitsOf ls) n (xs.map (·.2)) (ws.map (·.2)) ∧ ws.length ≤ 9 + 16 * xs.length ∧ m = (256 - xs.length) * 1000 + ws.length,
      ⟨_, [], (l0, 0) :: gs, none, none, rfl, s1.trans s13, s13 _ _ f1, w3, fun e he => ?_, ?_, by rw [List.length_cons]; omega, rfl⟩, ?_⟩
    · rcases he with he | he
      · exact absurd he List.not_mem_nil
      · rcases List.mem_cons.mp he with z | z
        · rw [z]
          refine ⟨l0f, ne_of_none (s2 _ _ e0) hwd, l0H, ?_⟩
          rw [told_zero]
          exact s13 _ _ e0
        · obtain ⟨h1, h2⟩ := hg2 e z
          exact ⟨fun z => (ne_of_none f1 h1) z.symm, ne_of_none h2 hwd, s1.free h1, s3 _ _ h2⟩
    · rw [List.map_cons, hg1]
      exact Work.start List.mem_cons_self (fun x hx => List.mem_cons_of_mem _ hx) fun x hx => List.mem_cons.mp hx
    rintro m σ H4 ⟨xs, ws, u, v, rfl, s4, f4, w4, each, wk, lw, hm⟩
    have fb : xs.length ≤ 256 := by
      have h := Nat.le_trans (wk.bound ka.lt kb.lt) p256
      rwa [List.length_map] at h
    have hlt : ∀ e, e ∈ xs ∨ e ∈ ws → e.2 < 256 := fun e he => by
      refine Nat.lt_of_lt_of_le (Cl.lt (D := bitsOf es) (S := bitsOf fs) (B := (· ∈ bitsOf ls)) ka.lt kb.lt ?_) p256
      rcases he with he | he
      · exact wk.inF _ (List.mem_map.mpr ⟨e, he, rfl⟩)
      · exact wk.inL _ (List.mem_map.mpr ⟨e, he, rfl⟩)
    refine ⟨_, rfl, Nat.zero_le _, fun l hl => ?_⟩
    have s5 : Same H4 (upd H4 l (.lst [])) := Same.new hl
    have hl5 : (upd H4 l (.lst [])) l = some (.lst []) := upd_same
    generalize upd H4 l (.lst []) = H5 at s5 hl5 ⊢
    have f5 := s5 _ _ f4
    have w5 := s5 _ _ w4
    have each5 : ∀ e, e ∈ xs ∨ e ∈ ws → e.1 ≠ fd ∧ e.1 ≠ wd ∧ H e.1 = none ∧ H5 e.1 = some (.lst (nv (told e.2))) := fun e he => let ⟨h1, h2, h3, h4⟩ := each e he; ⟨h1, h2, h3, s5 _ _ h4⟩
    refine ⟨rowsD (ws.map fun e => zs (told e.2)), rowsD [], dpTold w5 fun e he => (each5 e (.inr he)).2.2.2, .lst (SqL.of hl5) .nil, rowsD_shaped _, rowsD_shaped _, _, rfl, ?_⟩
    rw [rowsD_eqv]
    by_cases z : ws = []
    · subst z
      rw [decide_eq_true (show ([] : List (Addr × Nat)).map (fun e => zs (told e.2)) = [] from rfl)]
      refine iteF ⟨_, rfl, fd, xs.map fun e => (e.1, zs (told e.2)), rfl, ?_, ?_, fun rs p2 pm hs hp2 => ?_⟩
      · rw [List.map_map]
        exact SqL.of f5
      · intro e he
        obtain ⟨e0, he0, rfl⟩ := List.mem_map.mp he
        exact SqL.of (each5 e0 (.inl he0)).2.2.2
      · obtain ⟨gs2, pf, rfl⟩ := perm_map_inv (fun e : Addr × Nat => (e.1, zs (told e.2))) pm xs rfl
        rw [List.map_map]
        have s6 : Same H5 (upd H5 p2 (.lst (refs gs2))) := Same.new hp2
        have pm2 : (gs2.map (·.2)).Perm (xs.map (·.2)) := pf.map _
        have hs2 := List.pairwise_map.mp hs
        refine k _ p2 gs2 (s4.trans (s5.trans s6)) ⟨(s4.trans s5).free hp2, upd_same, fun e he => ?_, hs2, pm2.nodup_iff.mpr wk.nd, ?_, fun e he => ne_of_none (each5 e (.inl (pf.mem_iff.mp he))).2.2.2 hp2⟩ fun x => pm2.mem_iff.trans (wk.done x)
        · obtain ⟨_, _, h3, h4⟩ := each5 e (.inl (pf.mem_iff.mp he))
          exact ⟨h3, s6 _ _ h4⟩
        · rw [pf.length_eq]
          exact fb
    · rw [decide_eq_false fun e => z (List.map_eq_nil_iff.mp e)]
      obtain ⟨left, x, rfl⟩ : ∃ left x, ws = left ++ [x] := ⟨ws.dropLast, ws.getLast z, (List.dropLast_concat_getLast z).symm⟩
      obtain ⟨xa, x⟩ := x
      refine iteT ⟨fun σ' H' => ∃ m', m' < m ∧ ∃ (xs ws : List (Addr × Nat)) (u v : Option V), σ' = [some (.ref a), some (.ref c), some (.ref b), some (.ref fd), some (.ref wd), u, v] ∧ Same H H' ∧ H' fd = some (.lst (refs xs)) ∧ H' wd = some (.lst (refs ws)) ∧
        (∀ e, e ∈ xs ∨ e ∈ ws → e.1 ≠ fd ∧ e.1 ≠ wd ∧ H e.1 = none ∧ H' e.1 = some (.lst (nv (told e.2)))) ∧ Work (bitsOf es) (bitsOf fs) (· ∈ bitsOf ls) n (xs.map (·.2)) (ws.map (·.2)) ∧ ws.length ≤ 9 + 16 * xs.length ∧ m' = (256 - xs.length) * 1000 + ws.length, fun _ _ h => h, ?_⟩
      rw [List.length_append, List.length_singleton] at lw hm
      rw [List.map_append] at wk
      have ex : (xa, x) ∈ left ++ [(xa, x)] := List.mem_append_right _ List.mem_cons_self
      obtain ⟨x1, x2, x3, x4⟩ := each5 _ (.inr ex)
      have x256 : x < 256 := hlt _ (.inr ex)
      refine ⟨_, rfl, .inl ⟨rfl, _, SqL.of w5⟩, wd, refs (left ++ [(xa, x)]), .ref xa, rfl, rfl, w5, ?_, ?_⟩
      · rw [refs_snoc, List.length_append, List.length_singleton, Nat.add_sub_cancel, List.getElem?_append_right (Nat.le_refl _), Nat.sub_self]
        rfl
      rw [refs_snoc, List.dropLast_concat]
      generalize hH6 : upd H5 wd (.lst (refs left)) = H6
      have w6 : H6 wd = some (.lst (refs left)) := by
        rw [← hH6]
        exact upd_same
      have f6 : H6 fd = some (.lst (refs xs)) := by
        rw [← hH6, upd_ne nfw]
        exact f5
      have s6 : Same H H6 := fun b o e => by
        rw [← hH6, upd_ne (ne_of_none e wdH)]
        exact s5 _ _ (s4 _ _ e)
      have each6 : ∀ e, e ∈ xs ∨ e ∈ left ++ [(xa, x)] → e.1 ≠ fd ∧ e.1 ≠ wd ∧ H e.1 = none ∧ H6 e.1 = some (.lst (nv (told e.2))) := fun e he => by
        obtain ⟨h1, h2, h3, h4⟩ := each5 e he
        exact ⟨h1, h2, h3, by rw [← hH6, upd_ne h2]; exact h4⟩
      refine ⟨_, rfl, _, rfl, intsD (zs (told x)), (xs.map fun e => zs (told e.2)).map intsD, dpRow (SqL.of (each6 _ (.inr ex)).2.2.2), dpTold f6 fun e he => (each6 e (.inl he)).2.2.2, intsD_shaped _, rowsD_shaped _, _, rfl, ?_⟩
      rw [rows_any]
      have em : decide (zs (told x) ∈ xs.map fun e => zs (told e.2)) = decide (x ∈ xs.map (·.2)) := decide_eq_decide.mpr ⟨fun h => by
        obtain ⟨e, he, h2⟩ := List.mem_map.mp h
        have h3 := told_inj (hlt e (.inl he)) x256 (zs_inj h2)
        rw [← h3]
        exact List.mem_map.mpr ⟨e, he, rfl⟩, fun h => by
        obtain ⟨e, he, h2⟩ := List.mem_map.mp h
        refine List.mem_map.mpr ⟨e, he, ?_⟩
        have h3 : e.2 = x := h2
        rw [h3]⟩
      rw [em]
      by_cases hx : x ∈ xs.map (·.2)
      · rw [decide_eq_true hx]
        exact iteF ⟨_, by rw [hm]; omega, xs, left, _, v, rfl, s6, f6, w6, fun e he => each6 e (he.elim .inl fun h => .inr (List.mem_append_left _ h)), wk.skip hx, by omega, rfl⟩
      · rw [decide_eq_false hx]
        refine iteT ?_
        have tk : Work (bitsOf es) (bitsOf fs) (· ∈ bitsOf ls) n (xs.map (·.2) ++ [x]) (left.map (·.2) ++ ((bitsOf es).map (x ||| ·) ++ (bitsOf fs).map (lessB x ·))) := by
          refine wk.take hx ?_ ?_ ?_
          · intro y hy
            rcases List.mem_append.mp hy with h | h
            · obtain ⟨d, hd, e⟩ := List.mem_map.mp h
              exact .inl ⟨d, hd, e.symm⟩
            · obtain ⟨d, hd, e⟩ := List.mem_map.mp h
              exact .inr ⟨d, hd, e.symm⟩
          · exact fun d hd => .inr (List.mem_append_left _ (List.mem_map.mpr ⟨d, hd, rfl⟩))
          · exact fun d hd => .inr (List.mem_append_right _ (List.mem_map.mpr ⟨d, hd, rfl⟩))
        have fb2 : xs.length + 1 ≤ 256 := by
          have h := Nat.le_trans (tk.bound ka.lt kb.lt) p256
          rwa [List.length_append, List.length_map, List.length_singleton] at h
        refine ⟨_, rfl, .inl ⟨rfl, _, SqL.of f6⟩, _, rfl, fd, _, .ref xa, rfl, rfl, f6, ?_, ?_⟩
        · rw [List.length_map]
          exact small1000 (by omega)
        rw [← refs_snoc xs xa x]
        generalize hH7 : upd H6 fd (.lst (refs (xs ++ [(xa, x)]))) = H7
        have w7 : H7 wd = some (.lst (refs left)) := by
          rw [← hH7, upd_ne (Ne.symm nfw)]
          exact w6
        have f7 : H7 fd = some (.lst (refs (xs ++ [(xa, x)]))) := by
          rw [← hH7]
          exact upd_same
        have s7 : Same H H7 := fun b o e => by
          rw [← hH7, upd_ne (ne_of_none e hfd)]
          exact s6 _ _ e
        have each7 : ∀ e, e ∈ xs ∨ e ∈ left ++ [(xa, x)] → e.1 ≠ fd ∧ e.1 ≠ wd ∧ H e.1 = none ∧ H7 e.1 = some (.lst (nv (told e.2))) := fun e he => by
          obtain ⟨h1, h2, h3, h4⟩ := each6 e he
          exact ⟨h1, h2, h3, by rw [← hH7, upd_ne h1]; exact h4⟩
        refine ⟨_, rfl, .inl ⟨rfl, _, SqL.of w7⟩, ?_⟩
        dsimp only [tCons, tOp]
        refine map_laid (ka.same s7) n8 (each7 _ (.inr ex)).2.2.2 x256 rfl rfl rfl fun D8' H8 ga hD8 s8 e8 la8 ma8 ea8 => ?_
        refine map_laid ((kc.same s7).same s8) n8 (s8 _ _ (each7 _ (.inr ex)).2.2.2) x256 rfl rfl rfl fun D9 H9 gb hD9 s9 e9 lb9 mb9 eb9 => ?_
        have la := ka.few
        have lb := kc.few
        refine ⟨D8', D9, _, _, rfl, rfl, s9 _ _ e8, e9, ?_, fun q hq => ?_⟩
        · rw [List.length_map, List.length_map]
          exact Nat.le_trans (by omega : ga.length + gb.length ≤ 1000) (by decide)
        have s10 := Same.new (o := .lst (refs ga ++ refs gb)) hq
        have q10 : (upd H9 q (.lst (refs ga ++ refs gb))) q = some (.lst (refs ga ++ refs gb)) := upd_same
        generalize upd H9 q (.lst (refs ga ++ refs gb)) = H10 at s10 q10 ⊢
        have s710 := s8.trans (s9.trans s10)
        have er : refs left ++ (refs ga ++ refs gb) = refs (left ++ (ga ++ gb)) := by
          unfold refs
          rw [List.map_append, List.map_append]
        refine ⟨wd, q, _, _, rfl, rfl, s710 _ _ w7, q10, ?_, ?_⟩
        · rw [List.length_map, List.length_append, List.length_map, List.length_map]
          exact Nat.le_trans (by omega : left.length + (ga.length + gb.length) ≤ 10000) (by decide)
        rw [er]
        refine ⟨_, ?_, xs ++ [(xa, x)], left ++ (ga ++ gb), _, v, rfl, fun b o e => ?_, ?_, upd_same, fun e he => ?_, ?_, ?_, rfl⟩
        · rw [hm, List.length_append, List.length_append, List.length_append, List.length_singleton]
          omega
        · rw [upd_ne (ne_of_none e wdH)]
          exact s710 _ _ (s7 _ _ e)
        · rw [upd_ne nfw]
          exact s710 _ _ f7
        · have old : ∀ e, e ∈ xs ∨ e ∈ left ++ [(xa, x)] → e.1 ≠ fd ∧ e.1 ≠ wd ∧ H e.1 = none ∧ upd H10 wd (.lst (refs (left ++ (ga ++ gb)))) e.1 = some (.lst (nv (told e.2))) := fun e he => by
            obtain ⟨h1, h2, h3, h4⟩ := each7 e he
            exact ⟨h1, h2, h3, by rw [upd_ne h2]; exact s710 _ _ h4⟩
          have new : ∀ e : Addr × Nat, H7 e.1 = none → H10 e.1 = some (.lst (nv (told e.2))) → e.1 ≠ fd ∧ e.1 ≠ wd ∧ H e.1 = none ∧ upd H10 wd (.lst (refs (left ++ (ga ++ gb)))) e.1 = some (.lst (nv (told e.2))) := fun e h1 h2 => by
            have n2 : e.1 ≠ wd := fun z => ne_of_none w7 h1 z.symm
            exact ⟨fun z => ne_of_none f7 h1 z.symm, n2, s7.free h1, by rw [upd_ne n2]; exact h2⟩
          rcases he with he | he
          · rcases List.mem_append.mp he with h | h
            · exact old e (.inl h)
            · exact old e (.inr (List.mem_append_right _ h))
          · rcases List.mem_append.mp he with h | h
            · exact old e (.inr (List.mem_append_left _ h))
            · rcases List.mem_append.mp h with h | h
              · obtain ⟨h1, h2⟩ := ea8 e h
                exact new e h1 (s10 _ _ (s9 _ _ h2))
              · obtain ⟨h1, h2⟩ := eb9 e h
                exact new e (s8.free h1) (s10 _ _ h2)
        · rw [List.map_append, List.map_append, List.map_append, ma8, mb9]
          exact tk
        · rw [List.length_append, List.length_append, List.length_append, List.length_singleton]
          omega
end
end K22
/-! repr of rows; calls by keywords alone; sorted lists that are alike. -/
namespace K22
open PySem PySem.Spec L2
/-! ### repr of rows -/
theorem nat_len : ∀ i : Fin 8, (Str.ofString (toString (i.val : Int))).length ≤ 1 := by decide +kernel
theorem nat_log : ∀ i : Fin 8, decide ((i.val : Int).natAbs.log2 < 1920) = true := by decide +kernel
theorem shown_ints : ∀ l : List Nat, (∀ i ∈ l, i < 8) → ((PyData.shownAll ((zs l).map .int)).map (·.length)).sum ≤ l.length ∧ (PyData.shownAll ((zs l).map .int)).length = l.length ∧ PyData.showableAll ((zs l).map .int) = true
  | [], _ => by
    simp only [zs, List.map_nil, PyData.shownAll, PyData.showableAll, List.sum_nil, List.length_nil]
    exact ⟨Nat.le_refl _, trivial, trivial⟩
  | i :: l, h => by
    obtain ⟨h1, h2, h3⟩ := shown_ints l fun j hj => h j (List.mem_cons_of_mem _ hj)
    have hi := h i List.mem_cons_self
    have n1 := nat_len ⟨i, hi⟩
    have n2 := nat_log ⟨i, hi⟩
    unfold zs at h1 h2 h3 ⊢
    simp only [List.map_cons, PyData.shownAll, PyData.showableAll, PyData.shown, PyData.showable, List.sum_cons, List.length_cons]
    refine ⟨?_, by omega, ?_⟩
    · have n3 : (Str.ofString (toString (i : Int))).length ≤ 1 := n1
      omega
    · rw [h3, Bool.and_true]
      exact n2
/-- rows of few places -/
def Short (ls : List (List Int)) : Prop := ls.length ≤ 1000 ∧ ∀ l ∈ ls, ∃ m : List Nat, l = zs m ∧ m.length ≤ 8 ∧ ∀ i ∈ m, i < 8
theorem shown_rows : ∀ ls : List (List Int), (∀ l ∈ ls, ∃ m : List Nat, l = zs m ∧ m.length ≤ 8 ∧ ∀ i ∈ m, i < 8) → ((PyData.shownAll (ls.map intsD)).map (·.length)).sum ≤ 30 * ls.length ∧ (PyData.shownAll (ls.map intsD)).length = ls.length ∧ PyData.showableAll (ls.map intsD) = true
  | [], _ => by
    simp only [List.map_nil, PyData.shownAll, PyData.showableAll, List.sum_nil, List.length_nil]
    exact ⟨Nat.le_refl _, trivial, trivial⟩
  | l :: ls, h => by
    obtain ⟨h1, h2, h3⟩ := shown_rows ls fun j hj => h j (List.mem_cons_of_mem _ hj)
    obtain ⟨m, rfl, hm, h8⟩ := h l List.mem_cons_self
    obtain ⟨g1, g2, g3⟩ := shown_ints m h8
    have g4 := listText_len_le (PyData.shownAll ((zs m).map .int))
    simp only [List.map_cons, PyData.shownAll, PyData.showableAll, PyData.shown, PyData.showable, List.sum_cons, List.length_cons]
    rw [g2] at g4
    refine ⟨by omega, by omega, ?_⟩
    rw [g3, h3]
    rfl
theorem repr_ok {ls : List (List Int)} (h : Short ls) : (rowsD ls).showable = true ∧ (rowsD ls).hasDict = false ∧ (rowsD ls).depth ≤ 60 ∧ (rowsD ls).shown.length ≤ sizeLine := by
  obtain ⟨g1, g2, g3⟩ := shown_rows ls h.2
  have g4 := listText_len_le (PyData.shownAll (ls.map intsD))
  have hl := h.1
  refine ⟨?_, PyData.hasDict_of_canLay _ ?_, ?_, ?_⟩
  · simp only [PyData.showable]
    exact g3
  · simp only [PyData.canLay0]
    exact rowsD_lay ls
  · have := rowsD_depth ls
    simp only [PyData.depth]
    omega
  · simp only [PyData.shown]
    rw [g2] at g4
    exact Nat.le_trans (by omega : (listText (PyData.shownAll (ls.map intsD))).length ≤ 100000) (by decide)
/-- the rows of lots -/
abbrev rowsOf (es : List (Addr × Nat)) : List (List Int) := es.map fun e => zs (told e.2)
theorem short_rows {es : List (Addr × Nat)} (h : es.length ≤ 1000) : Short (rowsOf es) := ⟨by rw [List.length_map]; exact h, fun l hl => by
  obtain ⟨e, _, rfl⟩ := List.mem_map.mp hl
  exact ⟨told e.2, rfl, told_len _, fun i hi => told_lt hi⟩⟩
/-- sorted lots with the same bits: the same rows -/
theorem rows_same {es gs : List (Addr × Nat)} (h1 : es.Pairwise fun x y => zs (told x.2) ≤ zs (told y.2)) (h2 : gs.Pairwise fun x y => zs (told x.2) ≤ zs (told y.2)) (n1 : (es.map (·.2)).Nodup) (n2 : (gs.map (·.2)).Nodup)
    (l1 : ∀ x ∈ es.map (·.2), x < 256) (mm : ∀ x, x ∈ es.map (·.2) ↔ x ∈ gs.map (·.2)) : rowsOf es = rowsOf gs := by
  have st : ∀ {es : List (Addr × Nat)}, (es.Pairwise fun x y => zs (told x.2) ≤ zs (told y.2)) → (es.map (·.2)).Nodup → (∀ x ∈ es.map (·.2), x < 256) → (rowsOf es).Pairwise (fun a b : List Int => a < b) := fun {es} h n l => by
    have n' := List.pairwise_map.mp n
    have l' : ∀ e ∈ es, e.2 < 256 := fun e he => l _ (List.mem_map.mpr ⟨e, he, rfl⟩)
    refine List.pairwise_map.mpr ((h.and n').imp_of_mem fun {x y} hx hy ⟨a, b⟩ => ?_)
    rcases List.le_iff_lt_or_eq.mp a with h | h
    · exact h
    · exact absurd (told_inj (l' x hx) (l' y hy) (zs_inj h)) b
  have l2 : ∀ x ∈ gs.map (·.2), x < 256 := fun x hx => l1 x ((mm x).mpr hx)
  have mem : ∀ {es : List (Addr × Nat)} (r : List Int), r ∈ rowsOf es ↔ ∃ x ∈ es.map (·.2), r = zs (told x) := fun {es} r => by
    constructor
    · intro h
      obtain ⟨e, he, rfl⟩ := List.mem_map.mp h
      exact ⟨e.2, List.mem_map.mpr ⟨e, he, rfl⟩, rfl⟩
    · rintro ⟨x, hx, rfl⟩
      obtain ⟨e, he, rfl⟩ := List.mem_map.mp hx
      exact List.mem_map.mpr ⟨e, he, rfl⟩
  refine rising_unique (lt := fun a b : List Int => a < b) (fun x => List.lt_irrefl x) (fun x y h => List.lt_asymm h) (st h1 n1 l1) (st h2 n2 l2) fun r => ?_
  rw [mem, mem]
  exact ⟨fun ⟨x, hx, e⟩ => ⟨x, (mm x).mp hx, e⟩, fun ⟨x, hx, e⟩ => ⟨x, (mm x).mpr hx, e⟩⟩
/-! ### calls by keywords alone -/
def swap2 {α : Type} : List α → List α
  | [a, b] => [b, a]
  | l => l
theorem swap2_len {α : Type} : ∀ l : List α, (swap2 l).length = l.length
  | [] => rfl
  | [_] => rfl
  | [_, _] => rfl
  | _ :: _ :: _ :: _ => rfl
theorem swap2_vals : ∀ {zs : List V} {ws : List Value}, Vals zs ws → Vals (swap2 zs) (swap2 ws)
  | _, _, .nil => .nil
  | _, _, .cons a .nil => .cons a .nil
  | _, _, .cons a (.cons b .nil) => .cons b (.cons a .nil)
  | _, _, .cons a (.cons b (.cons c d)) => .cons a (.cons b (.cons c d))
abbrev gOf (g : {α : Type} → List α → List α) : List Value → List Value → List Value := fun us ws => match us with | [] => g ws | _ => []
abbrev gVOf (g : {α : Type} → List α → List α) : List V → List V → List V := fun vs zs => match vs with | [] => g zs | _ => []
section
variable {K : PySem.W.Frag} {f : Addr} {fd : FuncData}
theorem kb_flat (F : Fun K "flat_lots" "flat_lots" (top 42) f fd) : KBinds K fd ["store"] ["store"] (gOf id) (gVOf id) :=
  kbinds_of ["store"] id F (fun h => h) (fun _ => rfl) rfl (by decide) fun kV doc pm an cdv ct ws hw => by
    match ws, hw with
    | [a], _ => rfl
theorem kb_is_flat (F : Fun K "is_flat" "is_flat" (top 43) f fd) : KBinds K fd ["store", "lot"] ["lot", "store"] (gOf swap2) (gVOf swap2) :=
  kbinds_of ["lot", "store"] swap2 F swap2_vals swap2_len rfl (by decide) fun kV doc pm an cdv ct ws hw => by
    match ws, hw with
    | [a, b], _ => rfl
theorem kb_closure (F : Fun K "closure" "closure" (top 44) f fd) : KBinds K fd ["store", "lots"] ["lots", "store"] (gOf swap2) (gVOf swap2) :=
  kbinds_of ["lots", "store"] swap2 F swap2_vals swap2_len rfl (by decide) fun kV doc pm an cdv ct ws hw => by
    match ws, hw with
    | [a, b], _ => rfl
theorem kb_is_closed (F : Fun K "is_closed" "is_closed" (top 45) f fd) : KBinds K fd ["store", "value"] ["value", "store"] (gOf swap2) (gVOf swap2) :=
  kbinds_of ["value", "store"] swap2 F swap2_vals swap2_len rfl (by decide) fun kV doc pm an cdv ct ws hw => by
    match ws, hw with
    | [a, b], _ => rfl
end
section
variable {X : Cx} {k j : Nat} {x : Str} {st : Stmt} {ps ks : List Str} {sp : Sp} {p pos : Pos} {kws : List Keyword} {tk : TA} {g : List Value → List Value → List Value} {gV : List V → List V → List V}
theorem AtOk.pe_k (c : AtOk X.prog X.w X.K X.mg X.base k x st ps sp) (hr : Room j X.A) (hk : k ≤ j) (hg : Gl X x) (hb : ∀ f fd, Fun X.K x x st f fd → KBinds X.K fd ps ks g gV) (hkw : PK X kws tk)
    (hall : (backToKw pos (keywordEach kws X.env)).all (·.1.isSome) = true := by rfl) (hks : (backToKw pos (keywordEach kws X.env)).filterMap (·.1) = ks := by rfl) (hdb : (x == ("__debug__" : Str)) = false := by decide)
    (hpl : ((backTo pos (starEach [] X.env)).any (·.1) || (backToKw pos (keywordEach kws X.env)).any (·.1.isNone)) = false := by rfl) :
    PE X (.Call (.Name x p) [] kws pos) (tCallK sp gV C8.E0 tNil tk) := by
  obtain ⟨f, fd, a, F⟩ := c.ex
  exact pe_callK0 F (hr.mono hk) hg a.g a.F.kp (hb f fd a.F) pass0 hkw hall hks hdb hpl
end
end K22
/-! _law_right: what each of its statements does. -/
namespace K22
open PySem PySem.Spec L2
abbrev N56 : List Str := ["_law_pot_here", "_law_shelves", "_law_deliveries", "_law_sales", "_law_store", "_law_due", "_law_told", "_law_one", "_law_lots", "_law_turn", "_law_due_more", "_law_shown", "_law_more", "_law_lot"]
def rTup (K : PySem.W.Frag) : List V → Hp → VK → Prop := fun xs H Q => ∃ p ys, xs = [V.ref p] ∧ ((SqL K H p ys ∧ ∀ l, H l = none → Q (V.ref l) (upd H l (.tup ys))) ∨ (SqT K H p ys ∧ Q (V.ref p) H))
def rBool : List V → Hp → VK → Prop := fun xs H Q => ∃ b, xs = [V.bl b] ∧ Q (V.str (if b = true then "True" else "False")) H
def tRep (K : PySem.W.Frag) (i : Nat) : TE := tCB (rReprD K) (tCons (tVar i) tNil)
section
variable (K : PySem.W.Frag) (C : Addr)
def w1 : TS := tAsg (tCall spParts [] C8.E0 (tCons (tVar 0) (tCons (tC (.int 5)) tNil))) (gTup K 3 (gCons (gName 1) (gCons (gName 2) (gCons (gName 3) gNil))))
def w2 : TS := tPar 4 5 (tCons (tMake C (spInit K C) [] C8.E0 (tCons (tVar 1) (tCons (tVar 2) (tCons (tVar 3) tNil)))) (tCons (tCall spLawClosed [] C8.E0 (tCons (tVar 2) (tCons (tVar 3) (tCons (tLst tNil) tNil)))) tNil))
def w3 : TS := tAsg (tCall (spFlatLots C) [] C8.E0 (tCons (tVar 4) tNil)) (gName 6)
def w4 : TS := tIfS (tOr (tTest (tOp rNe (tRep K 6) (tRep K 5))) (tAnd (tTest (tOp (rEqD K) (tVar 2) (tLst tNil))) (tTest (tOp (rNeD K) (tVar 6) (tLst (tCons (tLst tNil) tNil)))))) (tRet (tC (.bl false))) tNext
def w5 : TS := tFor (iList K (tCall spAllLots [] C8.E0 (tCons (tVar 1) tNil))) (gName 7)
  (tIfS (tOr (tTest (tOp rNe (tCB rBool (tCons (tCall (spIsFlat K C) [] C8.E0 (tCons (tVar 4) (tCons (tVar 7) tNil))) tNil)) (tCB rBool (tCons (tOp (rInD K) (tVar 7) (tVar 5)) tNil))))
    (tTest (tOp rNe (tCallK (spIsFlat K C) (gVOf swap2) C8.E0 tNil (tCons (tCB (rTup K) (tCons (tRevL K (tVar 7)) tNil)) (tCons (tVar 4) tNil))) (tOp (rInD K) (tVar 7) (tVar 5))))) (tRet (tC (.bl false))) tNext)
def w6 : TS := tDrop (tBM K "list" rAppend (tOp (rIxL K) (tVar 6) (tC (.int 0))) (tCons (tC .non) tNil))
def w7 : TS := tDrop (tBM K "list" rAppend (tVar 6) (tCons (tC .non) tNil))
def w8 : TS := tAsg (tLc (iRng1 (tCons (tCall spDraw [] C8.E0 (tCons (tVar 0) (tCons (tC (.int 4)) tNil))) tNil)) (gName 9) tYes (tCall spKind [] C8.E0 (tCons (tVar 0) (tCons (tVar 1) tNil))) [9]) (gName 8)
def w9 : TS := tAsg (tTup (tCons (tCall spLawClosed [] C8.E0 (tCons (tVar 2) (tCons (tVar 3) (tCons (tVar 8) tNil)))) (tCons (tRep K 8) tNil))) (gTup K 2 (gCons (gName 10) (gCons (gName 11) gNil)))
def w10 : TS := tAsg (tCall (spClosure K C) [] C8.E0 (tCons (tVar 4) (tCons (tLc (iList K (tVar 8)) (gName 13) tYes (tRevL K (tVar 13)) [13]) tNil))) (gName 12)
def w11 : TS := tIfS (tOr (tTest (tOp rNe (tRep K 12) (tRep K 10))) (tOr (tTest (tOp rNe (tRep K 8) (tVar 11))) (tNot (tB (tCB (rAll K) (tCons (tLc (iList K (tVar 5)) (gName 7) tYes (tOp (rInD K) (tVar 7) (tVar 10)) [7]) tNil)))))) (tRet (tC (.bl false))) tNext
def w12 : TS := tIfS (tOr (tTest (tOp rNotB (tCall (spIsClosed K C) [] C8.E0 (tCons (tVar 4) (tCons (tVar 12) tNil))) (tC (.bl true))))
  (tTest (tOp rNotB (tCallK (spIsClosed K C) (gVOf swap2) C8.E0 tNil (tCons (tCB (rTup K) (tCons (tRevL K (tVar 12)) tNil)) (tCons (tVar 4) tNil))) (tC (.bl true))))) (tRet (tC (.bl false))) tNext
def w13 : TS := tRet (tAndV (tOp rEq (tCB (rReprD K) (tCons (tCallK (spFlatLots C) (gVOf id) C8.E0 tNil (tCons (tVar 4) tNil)) tNil)) (tRep K 5))
  (tOp rEq (tCB (rReprD K) (tCons (tCallK (spClosure K C) (gVOf swap2) C8.E0 tNil (tCons (tOp (rCatA K) (tCB (rTup K) (tCons (tVar 8) tNil)) (tCB (rTup K) (tCons (tVar 8) tNil))) (tCons (tVar 4) tNil))) tNil)) (tRep K 10)))
def wRight : TS := tSeq (w1 K) (tSeq (w2 K C) (tSeq (w3 C) (tSeq (w4 K) (tSeq (w5 K C) (tSeq (w6 K) (tSeq (w7 K) (tSeq w8 (tSeq (w9 K) (tSeq (w10 K C) (tSeq (w11 K) (tSeq (w12 K C) (w13 K C))))))))))))
end
/-- rows of lots that stand, sorted, whose bits are M -/
structure RowsAt (H : Hp) (q : Addr) (rs : List (Addr × Nat)) (M : Nat → Prop) : Prop where
  at_ : H q = some (.lst (refs rs))
  lot : ∀ e ∈ rs, H e.1 = some (.lst (nv (told e.2)))
  sort : rs.Pairwise fun x y => zs (told x.2) ≤ zs (told y.2)
  nd : (rs.map (·.2)).Nodup
  few : rs.length ≤ 256
  mem : ∀ x, x ∈ rs.map (·.2) ↔ M x
  lt : ∀ x, M x → x < 256
theorem RowsAt.same {H H' : Hp} {q : Addr} {rs : List (Addr × Nat)} {M : Nat → Prop} (r : RowsAt H q rs M) (s : Same H H') : RowsAt H' q rs M := ⟨s _ _ r.at_, fun e he => s _ _ (r.lot e he), r.sort, r.nd, r.few, r.mem, r.lt⟩
theorem RowsAt.of {H H' : Hp} {q : Addr} {rs : List (Addr × Nat)} {M : Nat → Prop} (n : NewLots H H' q rs) (m : ∀ x, x ∈ rs.map (·.2) ↔ M x) (lt : ∀ x, M x → x < 256) : RowsAt H' q rs M := ⟨n.at_, fun e he => (n.lot e he).2, n.sort, n.nd, n.few, m, lt⟩
theorem RowsAt.rows {H H' : Hp} {q q' : Addr} {rs ts : List (Addr × Nat)} {M M' : Nat → Prop} (r : RowsAt H q rs M) (t : RowsAt H' q' ts M') (m : ∀ x, M x ↔ M' x) : rowsOf rs = rowsOf ts :=
  rows_same r.sort t.sort r.nd t.nd (fun x hx => r.lt x ((r.mem x).mp hx)) fun x => (r.mem x).trans ((m x).trans (t.mem x).symm)
theorem RowsAt.rep {K : PySem.W.Frag} {H : Hp} {q : Addr} {rs : List (Addr × Nat)} {M : Nat → Prop} {Q : VK} (r : RowsAt H q rs M) (h : Q (.str (rowsD (rowsOf rs)).shown) H) : rReprD K [.ref q] H Q := by
  obtain ⟨h1, h2, h3, h4⟩ := repr_ok (short_rows (es := rs) (by have := r.few; omega))
  exact ⟨q, _, rfl, dpTold r.at_ r.lot, h1, h2, h3, h4, h⟩
theorem RowsAt.has {K : PySem.W.Frag} {H : Hp} {q a : Addr} {x : Nat} {rs : List (Addr × Nat)} {M : Nat → Prop} {Q : VK} (r : RowsAt H q rs M) (ha : H a = some (.lst (nv (told x)))) (hx : x < 256) (h : ∀ b : Bool, (b = true ↔ M x) → Q (.bl b) H) : rInD K (.ref a) (.ref q) H Q := by
  refine ⟨intsD (zs (told x)), (rowsOf rs).map intsD, dpRow (SqL.of ha), dpTold r.at_ r.lot, intsD_shaped _, rowsD_shaped _, ?_⟩
  rw [rows_any]
  refine h _ ?_
  rw [decide_eq_true_iff, ← r.mem x]
  constructor
  · intro h
    obtain ⟨e, he, h2⟩ := List.mem_map.mp h
    have h3 := told_inj (r.lt _ ((r.mem _).mp (List.mem_map.mpr ⟨e, he, rfl⟩))) hx (zs_inj h2)
    rw [← h3]
    exact List.mem_map.mpr ⟨e, he, rfl⟩
  · intro h
    obtain ⟨e, he, h2⟩ := List.mem_map.mp h
    refine List.mem_map.mpr ⟨e, he, ?_⟩
    have h3 : e.2 = x := h2
    rw [h3]
/-- after the draws -/
structure Kit1 (H : Hp) (pt D S : Addr) (n : Nat) (es fs : List (Addr × List Nat)) : Prop where
  pot : PotAt H pt
  n2 : 2 ≤ n
  n5 : n ≤ 5
  kD : KRow H D es n
  kS : KRow H S fs n
  fD : D ≠ pt
  fS : S ≠ pt
  fe : ∀ e ∈ es, e.1 ≠ pt
  ff : ∀ e ∈ fs, e.1 ≠ pt
/-- with the store and what is due -/
structure Kit2 (C : Addr) (H : Hp) (pt p kd D S q : Addr) (n : Nat) (ds ss : List Nat) (es fs : List (Addr × List Nat)) (rs : List (Addr × Nat)) : Prop where
  k1 : Kit1 H pt D S n es fs
  st : StoreAt C H p n ds ss kd
  kp : H kd = some (.dK [])
  due : RowsAt H q rs (Cl ds ss NoB)
  fq : q ≠ pt
  fr : ∀ e ∈ rs, e.1 ≠ pt
  memD : ∀ x, x ∈ ds ↔ x ∈ bitsOf es
  memS : ∀ x, x ∈ ss ↔ x ∈ bitsOf fs
/-- what stays, the pot aside -/
structure Kit3 (C : Addr) (G : Hp) (pt p kd D S q : Addr) (n : Nat) (ds ss : List Nat) (es fs : List (Addr × List Nat)) (rs : List (Addr × Nat)) : Prop where
  ptn : G pt = none
  n2 : 2 ≤ n
  n5 : n ≤ 5
  kD : KRow G D es n
  kS : KRow G S fs n
  st : StoreAt C G p n ds ss kd
  kp : Kept G kd ds ss
  due : RowsAt G q rs (Cl ds ss NoB)
  memD : ∀ x, x ∈ ds ↔ x ∈ bitsOf es
  memS : ∀ x, x ∈ ss ↔ x ∈ bitsOf fs
abbrev vi (n : Nat) : Option V := some (.int n)
abbrev vr (a : Addr) : Option V := some (.ref a)
section
variable {K : PySem.W.Frag} {C : Addr} {Dn : Ends} {H G : Hp} {pt p kd D S q tq : Addr} {n : Nat} {ds ss : List Nat} {es fs : List (Addr × List Nat)} {rs ts : List (Addr × Nat)}
theorem run1 (hp : PotAt H pt) (k : ∀ (H' : Hp) (D S : Addr) (n : Nat) (es fs : List (Addr × List Nat)), Kit1 H' pt D S n es fs → Dn.nx [vr pt, vi n, vr D, vr S, none, none, none, none, none, none, none, none, none, none] H') :
    w1 K Dn [vr pt, none, none, none, none, none, none, none, none, none, none, none, none, none] H := by
  refine ⟨_, rfl, pt, rfl, hp, fun H1 t D S n es fs b1 p1 ht n2 n5 kD kS => ⟨t, _, rfl, SqT.of ht, rfl, _, _, rfl, _, _, rfl, _, _, rfl, rfl, ?_⟩⟩
  have pn := hp.here
  exact k H1 D S n es fs ⟨p1, n2, n5, ⟨kD.at_, by have := kD.few; omega, fun e he => (kD.kind e he).2⟩, ⟨kS.at_, by have := kS.few; omega, fun e he => (kS.kind e he).2⟩, ne_pt pn kD.q0, ne_pt pn kS.q0, fun e he => ne_pt pn (kD.kind e he).1, fun e he => ne_pt pn (kS.kind e he).1⟩
theorem Cl.iff {D S D' S' : List Nat} {B B' : Nat → Prop} (hD : ∀ d, d ∈ D ↔ d ∈ D') (hS : ∀ s, s ∈ S ↔ s ∈ S') (hB : ∀ x, B x ↔ B' x) (x : Nat) : Cl D S B x ↔ Cl D' S' B' x :=
  ⟨Cl.mono (fun d => (hD d).mp) (fun d => (hS d).mp) fun x => (hB x).mp, Cl.mono (fun d => (hD d).mpr) (fun d => (hS d).mpr) fun x => (hB x).mpr⟩
theorem KRow.kinds {a : Addr} (k : KRow H a es n) : Kinds K H a n es := ⟨.inl (SqL.of k.at_), k.few, fun e he => ⟨.inl (SqL.of (k.kind e he).1), (k.kind e he).2.good, (k.kind e he).2.ne⟩⟩
theorem run2 (k1 : Kit1 H pt D S n es fs) (k : ∀ (H' : Hp) (p kd q : Addr) (ds ss : List Nat) (rs : List (Addr × Nat)), Kit2 C H' pt p kd D S q n ds ss es fs rs → Dn.nx [vr pt, vi n, vr D, vr S, vr p, vr q, none, none, none, none, none, none, none, none] H') :
    w2 K C Dn [vr pt, vi n, vr D, vr S, none, none, none, none, none, none, none, none, none, none] H := by
  have n8 : n ≤ 8 := by have := k1.n5; omega
  refine ⟨_, rfl, _, rfl, _, rfl, fun p dx hp hdx hne => ?_⟩
  have s0 : Same H (upd (upd H dx (.own p)) p (.ins C dx [])) := fun b o e => by
    rw [upd_ne (ne_of_none e hp), upd_ne (ne_of_none e hdx)]
    exact e
  have hp0 : (upd (upd H dx (.own p)) p (.ins C dx [])) p = some (.ins C dx []) := upd_same
  generalize upd (upd H dx (.own p)) p (.ins C dx []) = H0 at s0 hp0 ⊢
  refine ⟨p, dx, D, S, n, es, fs, rfl, hp0, k1.n2, n8, (k1.kD.same s0).kinds, (k1.kS.same s0).kinds, fun H1 ds ss kd b1 st kd0 ekd mds mss => ⟨rfl, ?_⟩⟩
  have s1 : Same H H1 := fun b o e => b1 _ _ (s0 _ _ e) (ne_of_none e hp)
  refine ⟨_, rfl, _, rfl, Nat.zero_le _, fun l hl => ?_⟩
  have s2 : Same H1 (upd H1 l (.lst [])) := Same.new hl
  have el : (upd H1 l (.lst [])) l = some (.lst []) := upd_same
  generalize upd H1 l (.lst []) = H2 at s2 el ⊢
  have s12 := s1.trans s2
  refine ⟨D, S, l, n, es, fs, [], rfl, n8, k1.kD.same s12, k1.kS.same s12, ⟨el, Nat.zero_le _, fun e he => absurd he List.not_mem_nil⟩, fun H3 q rs s3 nl me => ⟨_, _, rfl, ?_⟩⟩
  have s13 := s12.trans s3
  have mm : ∀ x, x ∈ rs.map (·.2) ↔ Cl ds ss NoB x := fun x => (me x).trans ((Cl.iff (fun d => (mds d).symm) (fun d => (mss d).symm) (fun x => Iff.rfl) x).trans cl_nil)
  have p256 : 2 ^ n ≤ 256 := pow_le_256 n8
  have fr : ∀ {x : Addr}, H2 x = none → x ≠ pt := fun h => ne_pt k1.pot.here (s12.free h)
  refine k H3 p kd q ds ss rs ⟨⟨k1.pot.same s13, k1.n2, k1.n5, k1.kD.same s13, k1.kS.same s13, k1.fD, k1.fS, k1.fe, k1.ff⟩, st.same (s2.trans s3), s3 _ _ (s2 _ _ ekd), .of nl mm fun x h => Nat.lt_of_lt_of_le (h.lt st.dn fun _ h => h.elim) p256, fr nl.q0, fun e he => fr (nl.lot e he).1, mds, mss⟩
/-- told rows, to be written on -/
structure Told (G H : Hp) (pt tq : Addr) (ts : List (Addr × Nat)) (ds ss : List Nat) : Prop where
  rows : RowsAt H tq ts (Cl ds ss NoB)
  gq : G tq = none
  ge : ∀ e ∈ ts, G e.1 = none
  ne : ∀ e ∈ ts, e.1 ≠ tq
  pq : tq ≠ pt
  pe : ∀ e ∈ ts, e.1 ≠ pt
theorem run3 (k2 : Kit2 C H pt p kd D S q n ds ss es fs rs) (k : ∀ (G H' : Hp) (tq : Addr) (ts : List (Addr × Nat)), Kit3 C G pt p kd D S q n ds ss es fs rs → Same G H' → PotAt H' pt → Told G H' pt tq ts ds ss →
      Dn.nx [vr pt, vi n, vr D, vr S, vr p, vr q, vr tq, none, none, none, none, none, none, none] H') :
    w3 C Dn [vr pt, vi n, vr D, vr S, vr p, vr q, none, none, none, none, none, none, none, none] H := by
  refine ⟨_, rfl, p, n, ds, ss, kd, rfl, k2.st, .inl k2.kp, fun H1 tq ts b1 st1 kp1 no1 nq ne nl me => ?_⟩
  have n5 := k2.k1.n5
  have n8 : n ≤ 8 := by omega
  have pot1 : PotAt H1 pt := by
    obtain ⟨u, v, h, r⟩ := k2.k1.pot
    refine ⟨u, v, b1 _ _ h fun z => ?_, r⟩
    rw [z, k2.kp] at h
    cases h
  have pn := k2.k1.pot.here
  have nopt : KNo H1 kd pt := no1 pt pn fun fl h => by
    rw [k2.kp] at h
    cases h
  -- the heap of what stays
  have hG : ∃ G : Hp, (∀ b, G b = if b = pt ∨ b = tq ∨ b ∈ ts.map (·.1) then none else H1 b) := ⟨_, fun _ => rfl⟩
  obtain ⟨G, hG⟩ := hG
  have sG : Same G H1 := fun b o e => by
    rw [hG] at e
    by_cases h : b = pt ∨ b = tq ∨ b ∈ ts.map (·.1)
    · rw [if_pos h] at e
      cases e
    · rw [if_neg h] at e
      exact e
  have pick0 : ∀ b o, H1 b = some o → b ≠ pt → b ≠ tq → (∀ e ∈ ts, e.1 ≠ b) → G b = some o := fun b o e h1 h2 h3 => by
    rw [hG, if_neg]
    · exact e
    · rintro (h | h | h)
      · exact h1 h
      · exact h2 h
      · obtain ⟨e2, he, h4⟩ := List.mem_map.mp h
        exact h3 e2 he h4
  have pick : ∀ b o, H b = some o → b ≠ pt → b ≠ kd → G b = some o := fun b o e h1 h2 =>
    pick0 b o (b1 _ _ e h2) h1 (fun z => ne_of_none e nl.q0 z) fun e2 he z => ne_of_none e (nl.lot e2 he).1 z.symm
  have lstk : ∀ {b : Addr} {xs : List V}, H b = some (.lst xs) → b ≠ kd := fun e z => by
    rw [z, k2.kp] at e
    cases e
  obtain ⟨u0, v0, hpt, _⟩ := k2.k1.pot
  have kdpt : kd ≠ pt := fun z => by
    have h := k2.kp
    rw [z, hpt] at h
    cases h
  have kdtq : kd ≠ tq := ne_of_none k2.kp nl.q0
  have kdts : ∀ e ∈ ts, e.1 ≠ kd := fun e he z => ne_of_none k2.kp (nl.lot e he).1 z.symm
  have rowG : ∀ {a : Addr} {gs : List (Addr × List Nat)}, KRow H a gs n → a ≠ pt → (∀ e ∈ gs, e.1 ≠ pt) → KRow G a gs n := fun kr h1 h2 =>
    ⟨pick _ _ kr.at_ h1 (lstk kr.at_), kr.few, fun e he => ⟨pick _ _ (kr.kind e he).1 (h2 e he) (lstk (kr.kind e he).1), (kr.kind e he).2⟩⟩
  have stG : StoreAt C G p n ds ss kd := by
    obtain ⟨dx, D', S', h1, h2, h3⟩ := k2.st.ob
    have dif : ∀ {b : Addr} {o : HO}, H b = some o → (∀ xs, o ≠ .lst xs) → (∀ kvs : List (Key × V), o ≠ .dK kvs) → G b = some o := fun e n1 n2 => by
      refine pick _ _ e (fun z => ?_) fun z => ?_
      · rw [z, hpt] at e
        exact n1 _ (Option.some.inj e).symm
      · rw [z, k2.kp] at e
        exact n2 _ (Option.some.inj e).symm
    exact ⟨⟨dx, D', S', dif h1 (fun _ z => nomatch z) (fun _ z => nomatch z), dif h2 (fun _ z => nomatch z) (fun _ z => nomatch z), dif h3 (fun _ z => nomatch z) (fun _ z => nomatch z)⟩, k2.st.n8, k2.st.dl, k2.st.sl, k2.st.dn, k2.st.sn⟩
  have kpG : Kept G kd ds ss := by
    rcases kp1 with h | ⟨fl, fs2, h1, h2, h3⟩
    · exact .inl (pick0 _ _ h kdpt kdtq kdts)
    · exact .inr ⟨fl, fs2, pick0 _ _ h1 kdpt kdtq kdts, pick0 _ _ h2 (nopt fl h1) (nq fl h1) (fun e he z => ne e he fl h1 z.symm), h3⟩
  have p256 : 2 ^ n ≤ 256 := pow_le_256 n8
  have dueG : RowsAt G q rs (Cl ds ss NoB) := ⟨pick _ _ k2.due.at_ k2.fq (lstk k2.due.at_), fun e he => pick _ _ (k2.due.lot e he) (k2.fr e he) (lstk (k2.due.lot e he)), k2.due.sort, k2.due.nd, k2.due.few, k2.due.mem, k2.due.lt⟩
  refine k G H1 tq ts ⟨by rw [hG, if_pos (.inl rfl)], k2.k1.n2, n5, rowG k2.k1.kD k2.k1.fD k2.k1.fe, rowG k2.k1.kS k2.k1.fS k2.k1.ff, stG, kpG, dueG, k2.memD, k2.memS⟩ sG pot1
    ⟨.of nl me fun x h => Nat.lt_of_lt_of_le (h.lt k2.st.dn fun _ h => h.elim) p256, by rw [hG, if_pos (.inr (.inl rfl))], fun e he => by rw [hG, if_pos (.inr (.inr (List.mem_map.mpr ⟨e, he, rfl⟩)))], nl.ne, ne_pt pn nl.q0, fun e he => ne_pt pn (nl.lot e he).1⟩
end
end K22
/-! _law_right: what each of its statements does, 4 to 8. -/
namespace K22
open PySem PySem.Spec L2
theorem Told.same {G H H' : Hp} {pt tq : Addr} {ts : List (Addr × Nat)} {ds ss : List Nat} (t : Told G H pt tq ts ds ss) (s : Same H H') : Told G H' pt tq ts ds ss := ⟨t.rows.same s, t.gq, t.ge, t.ne, t.pq, t.pe⟩
theorem nv_rev (l : List Nat) : (nv l).reverse = nv l.reverse := by
  unfold nv zs
  rw [List.map_reverse, List.map_reverse]
theorem Good.rev {l : List Nat} {n : Nat} (g : Good l n) : Good l.reverse n := ⟨(List.reverse_perm l).nodup_iff.mpr g.1, fun i hi => g.2 i (List.mem_reverse.mp hi)⟩
theorem bitsN_same {l m : List Nat} (h : ∀ i, i ∈ l ↔ i ∈ m) : bitsN l = bitsN m := bitsN_of fun i => by
  rw [h, testBit_bitsN, decide_eq_true_iff]
theorem told_good {b n : Nat} (h : b < 2 ^ n) : Good (told b) n := ⟨told_nodup b, fun i hi => told_lt_n h hi⟩
theorem rowsNil : ∀ {L : List (List Int)}, decide (L = []) = true → L = [] := fun h => of_decide_eq_true h
section
variable {K : PySem.W.Frag} {C : Addr} {Dn : Ends} {H G : Hp} {pt p kd D S q tq : Addr} {n : Nat} {ds ss : List Nat} {es fs : List (Addr × List Nat)} {rs ts : List (Addr × Nat)}
/-- without deliveries the empty lot is the only one -/
theorem cl_none {ds ss : List Nat} (h : ds = []) {x : Nat} : Cl ds ss NoB x ↔ x = 0 := by
  subst h
  constructor
  · intro c
    induction c with
    | zero => rfl
    | base h => exact h.elim
    | lay _ h _ => exact absurd h List.not_mem_nil
    | off _ _ ih =>
      subst ih
      unfold lessB
      rw [Nat.zero_and]
      rfl
  · rintro rfl
    exact .zero
theorem RowsAt.tRep {i : Nat} {σ : L2.St} {Q : VK} {M : Nat → Prop} (hi : σ[i]? = some (some (.ref q))) (r : RowsAt H q rs M) (h : Q (.str (rowsD (rowsOf rs)).shown) H) : tRep K i σ H Q := ⟨_, hi, r.rep h⟩
theorem run4 (k3 : Kit3 C G pt p kd D S q n ds ss es fs rs) (sG : Same G H) (td : Told G H pt tq ts ds ss) (k : ∀ H', Same H H' → Dn.nx [vr pt, vi n, vr D, vr S, vr p, vr q, vr tq, none, none, none, none, none, none, none] H') :
    w4 K Dn [vr pt, vi n, vr D, vr S, vr p, vr q, vr tq, none, none, none, none, none, none, none] H := by
  have due := k3.due.same sG
  have er := td.rows.rows due fun _ => Iff.rfl
  show tRep K 6 _ H _
  refine RowsAt.tRep rfl td.rows ?_
  show tRep K 5 _ H _
  refine RowsAt.tRep rfl due ⟨rfl, _, rfl, ?_⟩
  rw [er, decide_eq_true rfl]
  refine iteF ⟨_, rfl, Nat.zero_le _, fun l hl => ?_⟩
  have s1 : Same H (upd H l (.lst [])) := Same.new hl
  have el : (upd H l (.lst [])) l = some (.lst []) := upd_same
  generalize upd H l (.lst []) = H1 at s1 el ⊢
  have kD := (k3.kD.same sG).same s1
  refine ⟨rowsD (es.map fun e => zs e.2), rowsD [], dpNv kD.at_ fun e he => (kD.kind e he).1, .lst (SqL.of el) .nil, rowsD_shaped _, rowsD_shaped _, _, rfl, ?_⟩
  rw [rowsD_eqv]
  by_cases z : es = []
  · rw [decide_eq_true (List.map_eq_nil_iff.mpr z)]
    refine iteT ⟨_, rfl, Nat.zero_le _, fun l0 hl0 => ⟨by show 1 ≤ sizeLine; decide, fun l1 hl1 => ?_⟩⟩
    have s2 := (Same.new (o := .lst []) hl0).trans (Same.new (o := .lst [.ref l0]) hl1)
    have e0 : (upd (upd H1 l0 (.lst [])) l1 (.lst [.ref l0])) l0 = some (.lst []) := (Same.new hl1) _ _ upd_same
    have e1 : (upd (upd H1 l0 (.lst [])) l1 (.lst [.ref l0])) l1 = some (.lst [.ref l0]) := upd_same
    generalize upd (upd H1 l0 (.lst [])) l1 (.lst [.ref l0]) = H2 at s2 e0 e1 ⊢
    have r2 := (td.rows.same s1).same s2
    have one : RowsAt H2 l1 [(l0, 0)] (· = 0) := ⟨e1, fun e he => by
      rw [List.mem_singleton.mp he]
      show H2 l0 = some (.lst (nv (told 0)))
      rw [told_zero]
      exact e0, List.pairwise_singleton _ _, List.nodup_cons.mpr ⟨List.not_mem_nil, List.nodup_nil⟩, by rw [List.length_singleton]; omega, fun x => List.mem_singleton, fun x hx => by subst hx; decide⟩
    have dn : ds = [] := List.eq_nil_iff_forall_not_mem.mpr fun x hx => by
      have h := (k3.memD x).mp hx
      rw [z] at h
      exact absurd h List.not_mem_nil
    have e2 := r2.rows one fun x => cl_none dn
    refine ⟨rowsD (rowsOf ts), rowsD (rowsOf [(l0, 0)]), dpTold r2.at_ r2.lot, dpTold one.at_ one.lot, rowsD_shaped _, rowsD_shaped _, _, rfl, ?_⟩
    rw [rowsD_eqv, e2, decide_eq_true rfl]
    exact iteF (k H2 (s1.trans s2))
  · rw [decide_eq_false fun e => z (List.map_eq_nil_iff.mp e)]
    exact iteF (iteF (k H1 s1))
theorem str_bool {b c : Bool} (h : b = c) : decide (V.str (if b = true then ("True" : Str) else "False") = V.str (if c = true then ("True" : Str) else "False")) = true := by
  subst h
  exact decide_eq_true rfl
theorem bool_iff {b c : Bool} {A : Prop} (hb : b = true ↔ A) (hc : c = true ↔ A) : b = c := by
  cases b <;> cases c
  · rfl
  · exact absurd (hb.mpr (hc.mp rfl)) Bool.false_ne_true
  · exact absurd (hc.mpr (hb.mp rfl)) Bool.false_ne_true
  · rfl
theorem run5 (k3 : Kit3 C G pt p kd D S q n ds ss es fs rs) (sG : Same G H) (k : ∀ (H' : Hp) (u : Option V), Same H H' → Dn.nx [vr pt, vi n, vr D, vr S, vr p, vr q, vr tq, u, none, none, none, none, none, none] H') :
    w5 K C Dn [vr pt, vi n, vr D, vr S, vr p, vr q, vr tq, none, none, none, none, none, none, none] H := by
  have n8 : n ≤ 8 := by have := k3.n5; omega
  have p256 : 2 ^ n ≤ 256 := pow_le_256 n8
  refine ⟨_, rfl, n, rfl, n8, fun H1 aq las s1 e1 l256 each => ⟨aq, rfl, ⟨_, SqL.of e1⟩, ?_⟩⟩
  refine for_list (K := K) (a := aq) (xs := refs las) (fun i σ H' => ∃ u, σ = [vr pt, vi n, vr D, vr S, vr p, vr q, vr tq, u, none, none, none, none, none, none] ∧ Same H1 H') ⟨none, rfl, Same.refl _⟩ (fun i σ H' _ ⟨_, _, s⟩ => SqL.of (s _ _ e1)) ?_ ?_
  · rintro i x σ H2 hx ⟨u, rfl, s2⟩
    obtain ⟨e, _, he, rfl⟩ := refs_get hx
    obtain ⟨h1, h2⟩ := each e he
    have x256 : e.2 < 256 := Nat.lt_of_lt_of_le h2 p256
    have eb : bitsN (told e.2) = e.2 := bitsN_told x256
    have s02 := s1.trans s2
    refine ⟨_, rfl, _, rfl, p, e.1, n, ds, ss, kd, told e.2, rfl, (k3.st.same sG).same s02, .inl (SqL.of (s2 _ _ h1)), told_good h2, fun H3 b s3 hb => ?_⟩
    rw [eb] at hb
    have s03 := s02.trans s3
    refine ⟨b, rfl, _, rfl, _, rfl, RowsAt.has ((k3.due.same sG).same s03) (s3 _ _ (s2 _ _ h1)) x256 fun c hc => ⟨c, rfl, rfl, _, rfl, ?_⟩⟩
    rw [str_bool (bool_iff hb hc)]
    refine iteF ⟨_, rfl, e.1, _, rfl, SqL.of (s3 _ _ (s2 _ _ h1)), fun r hr => ⟨r, _, rfl, .inl ⟨SqL.of upd_same, fun l hl => ?_⟩⟩⟩
    have s4 : Same H3 (upd (upd H3 r (.lst (nv (told e.2)).reverse)) l (.tup (nv (told e.2)).reverse)) := (Same.new hr).trans (Same.new hl)
    have e4 : (upd (upd H3 r (.lst (nv (told e.2)).reverse)) l (.tup (nv (told e.2)).reverse)) l = some (.tup (nv (told e.2)).reverse) := upd_same
    generalize upd (upd H3 r (.lst (nv (told e.2)).reverse)) l (.tup (nv (told e.2)).reverse) = H4 at s4 e4 ⊢
    rw [nv_rev] at e4
    have s04 := s03.trans s4
    refine ⟨_, rfl, p, l, n, ds, ss, kd, (told e.2).reverse, rfl, (k3.st.same sG).same s04, .inr (SqT.of e4), (told_good h2).rev, fun H5 b2 s5 hb2 => ?_⟩
    rw [bitsN_same (m := told e.2) fun i => List.mem_reverse, eb] at hb2
    have s05 := s04.trans s5
    refine ⟨_, rfl, _, rfl, RowsAt.has ((k3.due.same sG).same s05) (s5 _ _ (s4 _ _ (s3 _ _ (s2 _ _ h1)))) x256 fun c2 hc2 => ⟨rfl, _, rfl, ?_⟩⟩
    rw [bool_iff hb2 hc2, decide_eq_true rfl]
    exact iteF ⟨_, rfl, s2.trans (s3.trans (s4.trans s5))⟩
  · rintro σ H2 ⟨u, rfl, s2⟩
    exact k H2 u (s1.trans s2)
theorem run67 {u : Option V} (sG : Same G H) (pot : PotAt H pt) (td : Told G H pt tq ts ds ss) (k : ∀ H', Same G H' → PotAt H' pt → Dn.nx [vr pt, vi n, vr D, vr S, vr p, vr q, vr tq, u, none, none, none, none, none, none] H') :
    tSeq (w6 K) (w7 K) Dn [vr pt, vi n, vr D, vr S, vr p, vr q, vr tq, u, none, none, none, none, none, none] H := by
  have z0 : 0 ∈ ts.map (·.2) := (td.rows.mem 0).mpr .zero
  cases ts with
  | nil => exact absurd z0 List.not_mem_nil
  | cons t0 ts =>
    have ht0 : t0 ∈ t0 :: ts := List.mem_cons_self
    have r0 := td.rows.lot t0 ht0
    have ra := td.rows.at_
    have ne := td.ne t0 ht0
    refine ⟨_, rfl, tq, _, _, _, rfl, rfl, SqL.of ra, at_zero _ _, .inl ⟨rfl, _, SqL.of r0⟩, t0.1, _, .non, rfl, rfl, r0, ?_, ?_⟩
    · have := told_len t0.2
      rw [nv_length]
      exact small1000 (by omega)
    generalize hH1 : upd H t0.1 (.lst (nv (told t0.2) ++ [.non])) = H1
    have q1 : H1 tq = some (.lst (refs (t0 :: ts))) := by
      rw [← hH1, upd_ne (Ne.symm ne)]
      exact ra
    refine ⟨_, rfl, .inl ⟨rfl, _, SqL.of q1⟩, tq, _, .non, rfl, rfl, q1, ?_, ?_⟩
    · have := td.rows.few
      rw [List.length_map]
      exact small1000 (by omega)
    refine k _ (fun b o e => ?_) ?_
    · rw [upd_ne (ne_of_none e td.gq), ← hH1, upd_ne (ne_of_none e (td.ge t0 ht0))]
      exact sG _ _ e
    · obtain ⟨a, b, h, r⟩ := pot
      refine ⟨a, b, ?_, r⟩
      rw [upd_ne (Ne.symm td.pq), ← hH1, upd_ne (Ne.symm (td.pe t0 ht0))]
      exact h
theorem run8 {u : Option V} (k3 : Kit3 C G pt p kd D S q n ds ss es fs rs) (sG : Same G H) (pot : PotAt H pt) (k : ∀ (H' : Hp) (Dl : Addr) (ls : List (Addr × List Nat)), Same G H' → KRow H' Dl ls n → ls.length ≤ 3 → Dn.nx [vr pt, vi n, vr D, vr S, vr p, vr q, vr tq, u, vr Dl, none, none, none, none, none] H') :
    w8 Dn [vr pt, vi n, vr D, vr S, vr p, vr q, vr tq, u, none, none, none, none, none, none] H := by
  have n8 : n ≤ 8 := by have := k3.n5; omega
  have gpt : ∀ {H0 H' : Hp}, Same G H0 → But pt H0 H' → Same G H' := fun s b x o e => b _ _ (s _ _ e) (ne_of_none e k3.ptn)
  refine ⟨_, rfl, pt, 4, rfl, pot, by decide, by decide, fun H1 r b1 p1 hr => ⟨(r : Int), rfl, by omega, by omega, fun D0 hD => lc_range (lo := 0) (n := r)
    (fun i H' => Same G H' ∧ PotAt H' pt ∧ D0 ≠ pt ∧ G D0 = none ∧ ∃ ls : List (Addr × List Nat), H' D0 = some (.lst (refs ls)) ∧ ls.length = i ∧ ∀ e ∈ ls, e.1 ≠ D0 ∧ e.1 ≠ pt ∧ H' e.1 = some (.lst (nv e.2)) ∧ KindL e.2 n) ?_ ?_ ?_⟩⟩
  · have s1 := gpt sG b1
    have sD : Same H1 (upd H1 D0 (.lst [])) := Same.new hD
    exact ⟨s1.trans sD, p1.same sD, ne_pt p1.here hD, s1.free hD, [], upd_same, rfl, fun e he => absurd he List.not_mem_nil⟩
  · rintro i H2 hi ⟨s2, p2, nD, gD, ls, e2, le, each⟩
    refine ⟨rfl, ?_⟩
    refine ⟨_, rfl, _, rfl, pt, n, rfl, p2, k3.n2, n8, fun H3 a l b3 p3 ha e3 kl => ⟨refs ls, b3 _ _ e2 nD, ?_, ?_⟩⟩
    · rw [List.length_map]
      exact small1000 (by omega)
    · have s3 := gpt s2 b3
      have na : a ≠ D0 := fun z => by
        rw [z, e2] at ha
        cases ha
      refine ⟨fun b o e => ?_, ?_, nD, gD, ls ++ [(a, l)], ?_, ?_, fun e he => ?_⟩
      · rw [upd_ne (ne_of_none e gD)]
        exact s3 _ _ e
      · obtain ⟨u1, v1, h, q1⟩ := p3
        exact ⟨u1, v1, by rw [upd_ne (Ne.symm nD)]; exact h, q1⟩
      · rw [upd_same, refs_snoc]
      · rw [List.length_append, List.length_singleton, le]
      · rcases List.mem_append.mp he with h | h
        · obtain ⟨h1, h2, h3, h4⟩ := each e h
          exact ⟨h1, h2, by rw [upd_ne h1]; exact b3 _ _ h3 h2, h4⟩
        · rw [List.mem_singleton.mp h]
          exact ⟨na, ne_pt p2.here ha, by rw [upd_ne na]; exact e3, kl⟩
  · rintro H2 ⟨s2, p2, nD, gD, ls, e2, le, each⟩
    exact k H2 D0 ls s2 ⟨e2, by omega, fun e he => (each e he).2.2⟩ (by omega)
end
end K22
/-! _law_right: what each of its statements does, 9 to 13. -/
namespace K22
open PySem PySem.Spec L2
theorem KRow.short {H : Hp} {a : Addr} {ls : List (Addr × List Nat)} {n : Nat} (k : KRow H a ls n) (n8 : n ≤ 8) : Short (ls.map fun e => zs e.2) := ⟨by have := k.few; rw [List.length_map]; omega, fun l hl => by
  obtain ⟨e, he, rfl⟩ := List.mem_map.mp hl
  have g := (k.kind e he).2.good
  exact ⟨e.2, rfl, Nat.le_trans g.length n8, fun i hi => Nat.lt_of_lt_of_le (g.2 i hi) n8⟩⟩
theorem KRow.tRep {K : PySem.W.Frag} {H : Hp} {a : Addr} {ls : List (Addr × List Nat)} {n i : Nat} {σ : L2.St} {Q : VK} (hi : σ[i]? = some (some (.ref a))) (k : KRow H a ls n) (n8 : n ≤ 8) (h : Q (.str (rowsD (ls.map fun e => zs e.2)).shown) H) : tRep K i σ H Q := by
  obtain ⟨h1, h2, h3, h4⟩ := repr_ok (k.short n8)
  exact ⟨_, hi, a, _, rfl, dpNv k.at_ fun e he => (k.kind e he).1, h1, h2, h3, h4, h⟩
section
variable {K : PySem.W.Frag} {C : Addr} {Dn : Ends} {H G : Hp} {pt p kd D S q tq Dl q2 q3 : Addr} {n : Nat} {ds ss : List Nat} {es fs ls : List (Addr × List Nat)} {rs ts rs2 rs3 : List (Addr × Nat)} {u : Option V}
abbrev sho (ls : List (Addr × List Nat)) : Str := (rowsD (ls.map fun e => zs e.2)).shown
theorem run9 (k3 : Kit3 C G pt p kd D S q n ds ss es fs rs) (sG : Same G H) (kl : KRow H Dl ls n) (k : ∀ (H' : Hp) (q2 : Addr) (rs2 : List (Addr × Nat)), Same H H' → RowsAt H' q2 rs2 (Cl ds ss (· ∈ bitsOf ls)) → Dn.nx [vr pt, vi n, vr D, vr S, vr p, vr q, vr tq, u, vr Dl, none, vr q2, some (.str (sho ls)), none, none] H') :
    w9 K Dn [vr pt, vi n, vr D, vr S, vr p, vr q, vr tq, u, vr Dl, none, none, none, none, none] H := by
  have n8 : n ≤ 8 := by have := k3.n5; omega
  have p256 : 2 ^ n ≤ 256 := pow_le_256 n8
  refine ⟨_, rfl, _, rfl, _, rfl, D, S, Dl, n, es, fs, ls, rfl, n8, k3.kD.same sG, k3.kS.same sG, kl, fun H1 q2 rs2 s1 nl me => ?_⟩
  show K22.tRep K 8 _ H1 _
  refine KRow.tRep rfl (kl.same s1) n8 ⟨by show 2 ≤ sizeLine; decide, fun t ht => ⟨t, _, rfl, SqT.of upd_same, rfl, _, _, rfl, _, _, rfl, rfl, ?_⟩⟩
  have mm : ∀ x, x ∈ rs2.map (·.2) ↔ Cl ds ss (· ∈ bitsOf ls) x := fun x => (me x).trans (Cl.iff (fun d => (k3.memD d).symm) (fun d => (k3.memS d).symm) (fun x => Iff.rfl) x)
  have st := Same.new (H := H1) (o := .tup [.ref q2, .str (sho ls)]) ht
  exact k _ q2 rs2 (s1.trans st) ((RowsAt.of nl mm fun x h => Nat.lt_of_lt_of_le (h.lt k3.st.dn kl.lt) p256).same st)
theorem rev_bits (ls : List (Addr × List Nat)) (gs : List (Addr × List Nat)) (h : gs.map (·.2) = ls.map fun e => e.2.reverse) : bitsOf gs = bitsOf ls := by
  have e1 : bitsOf gs = (gs.map (·.2)).map bitsN := by rw [List.map_map]; rfl
  rw [e1, h, List.map_map]
  exact List.map_congr_left fun e _ => bitsN_same fun i => List.mem_reverse
theorem run10 (k3 : Kit3 C G pt p kd D S q n ds ss es fs rs) (sG : Same G H) (kl : KRow H Dl ls n) (k : ∀ (H' : Hp) (q3 : Addr) (rs3 : List (Addr × Nat)), Same H H' → RowsAt H' q3 rs3 (Cl ds ss (· ∈ bitsOf ls)) → Dn.nx [vr pt, vi n, vr D, vr S, vr p, vr q, vr tq, u, vr Dl, none, vr q2, some (.str (sho ls)), vr q3, none] H') :
    w10 K C Dn [vr pt, vi n, vr D, vr S, vr p, vr q, vr tq, u, vr Dl, none, vr q2, some (.str (sho ls)), none, none] H := by
  have n8 : n ≤ 8 := by have := k3.n5; omega
  have p256 : 2 ^ n ≤ 256 := pow_le_256 n8
  have few := kl.few
  refine ⟨_, rfl, ?_⟩
  dsimp only [tCons]
  refine map_list (xs := refs ls) (fun R h => ⟨_, rfl, h H Dl (Same.refl _) kl.at_⟩) (by rw [List.length_map]; omega) (fun _ => rfl)
    (fun D j y H2 => ∃ (e : Addr × List Nat) (r : Addr), ls[j]? = some e ∧ y = .ref r ∧ r ≠ D ∧ H2 r = some (.lst (nv e.2.reverse))) (fun D j y Ha Hb bt ⟨e, r, h1, h2, h3, h4⟩ => ⟨e, r, h1, h2, h3, bt _ _ h4 h3⟩) ?_ ?_
  · intro D0 j y H2 Q2 hy s2 hD2 kk
    obtain ⟨e, he1, he2, rfl⟩ := refs_get hy
    refine ⟨_, rfl, e.1, _, rfl, SqL.of (s2 _ _ (kl.kind e he2).1), fun r hr => kk _ _ (Same.new hr) ⟨e, r, he1, rfl, fun z => hD2 (by rw [← z]; exact hr), ?_⟩⟩
    rw [upd_same, nv_rev]
  · intro D0 H1 ys hD s1 e1 ly hy
    rw [List.length_map] at ly
    obtain ⟨gs, rfl, hg1, hg2⟩ := pairs_of (R := fun r (l : List Nat) => H1 r = some (.lst (nv l))) (ys := ys) (ls := ls.map fun e => e.2.reverse) (by rw [ly, List.length_map]) fun j y b hy1 hb => by
      obtain ⟨e2, r, h1, h2, _, h4⟩ := hy j y hy1
      rw [List.getElem?_map, h1] at hb
      cases hb
      exact ⟨r, h2, h4⟩
    rw [List.length_map] at ly
    have eb := rev_bits ls gs hg1
    have each : ∀ e ∈ gs, Good e.2 n := fun e he => by
      have h : e.2 ∈ gs.map (·.2) := List.mem_map.mpr ⟨e, he, rfl⟩
      rw [hg1] at h
      obtain ⟨e0, he0, h2⟩ := List.mem_map.mp h
      rw [← h2]
      exact (kl.kind e0 he0).2.good.rev
    refine ⟨p, D0, n, ds, ss, kd, gs, rfl, (k3.st.same sG).same s1, ⟨.inl (SqL.of e1), by omega, fun e he => ⟨.inl (SqL.of (hg2 e he)), each e he⟩⟩, fun H2 q3 rs3 s2 nl me => ?_⟩
    rw [eb] at me
    exact k H2 q3 rs3 (s1.trans s2) (.of nl me fun x h => Nat.lt_of_lt_of_le (h.lt k3.st.dn kl.lt) p256)
theorem run11 (k3 : Kit3 C G pt p kd D S q n ds ss es fs rs) (sG : Same G H) (kl : KRow H Dl ls n) (r2 : RowsAt H q2 rs2 (Cl ds ss (· ∈ bitsOf ls))) (r3 : RowsAt H q3 rs3 (Cl ds ss (· ∈ bitsOf ls))) (k : ∀ H', Same H H' → Dn.nx [vr pt, vi n, vr D, vr S, vr p, vr q, vr tq, u, vr Dl, none, vr q2, some (.str (sho ls)), vr q3, none] H') :
    w11 K Dn [vr pt, vi n, vr D, vr S, vr p, vr q, vr tq, u, vr Dl, none, vr q2, some (.str (sho ls)), vr q3, none] H := by
  have n8 : n ≤ 8 := by have := k3.n5; omega
  have er := r3.rows r2 fun _ => Iff.rfl
  have due := k3.due.same sG
  show K22.tRep K 12 _ H _
  refine RowsAt.tRep rfl r3 ?_
  show K22.tRep K 10 _ H _
  refine RowsAt.tRep rfl r2 ⟨rfl, _, rfl, ?_⟩
  rw [er, decide_eq_true rfl]
  refine iteF ?_
  show K22.tRep K 8 _ H _
  refine KRow.tRep rfl kl n8 ⟨_, rfl, rfl, _, rfl, ?_⟩
  rw [decide_eq_true rfl]
  refine iteF ?_
  refine all_list (xs := refs rs) (fun R h => ⟨_, rfl, h H q (Same.refl _) due.at_⟩) (by have := due.few; rw [List.length_map]; omega) (fun _ => rfl) ?_ fun H1 s1 => ⟨_, rfl, iteF (k H1 s1)⟩
  intro j y H1 Q1 hy s1 q1
  obtain ⟨e, _, he, rfl⟩ := refs_get hy
  have hm := (due.mem _).mp (List.mem_map.mpr ⟨e, he, rfl⟩)
  refine ⟨_, rfl, _, rfl, RowsAt.has (r2.same s1) (s1 _ _ (due.lot e he)) (due.lt _ hm) fun b hb => ?_⟩
  have hb2 : b = true := hb.mpr (Cl.mono (fun _ h => h) (fun _ h => h) (fun _ h => h.elim) hm)
  rw [hb2]
  exact q1 H1 (Same.refl _)
/-- rows of lots, as they are passed -/
theorem RowsAt.lotsIn {M : Nat → Prop} {a : Addr} {H' : Hp} (r : RowsAt H q rs M) (hM : ∀ x, M x → x < 2 ^ n) (s : Same H H') (gs : List (Addr × Nat)) (hg : ∀ e, e ∈ gs ↔ e ∈ rs) (lg : gs.length = rs.length) (ha : Sq K H' a (refs gs)) :
    LotsIn K H' a n (gs.map fun e => (e.1, told e.2)) := ⟨by unfold refs at ha ⊢; rw [List.map_map]; exact ha, by have := r.few; rw [List.length_map, lg]; exact this, fun e he => by
  obtain ⟨e0, he0, rfl⟩ := List.mem_map.mp he
  have h := (hg e0).mp he0
  exact ⟨.inl (SqL.of (s _ _ (r.lot e0 h))), told_good (hM _ ((r.mem _).mp (List.mem_map.mpr ⟨e0, h, rfl⟩)))⟩⟩
theorem RowsAt.closed {B : Nat → Prop} (r : RowsAt H q rs (Cl ds ss B)) (gs : List (Addr × Nat)) (hg : ∀ e, e ∈ gs ↔ e ∈ rs) : Closed ds ss (bitsOf (gs.map fun e => (e.1, told e.2))) := by
  have mm : ∀ x, x ∈ bitsOf (gs.map fun e => (e.1, told e.2)) ↔ Cl ds ss B x := fun x => by
    rw [← r.mem x]
    constructor
    · intro h
      obtain ⟨e, he, rfl⟩ := List.mem_map.mp h
      obtain ⟨e0, he0, rfl⟩ := List.mem_map.mp he
      have h2 := (hg e0).mp he0
      have h3 : e0.2 ∈ rs.map (·.2) := List.mem_map.mpr ⟨e0, h2, rfl⟩
      show bitsN (told e0.2) ∈ _
      rw [bitsN_told (r.lt _ ((r.mem _).mp h3))]
      exact h3
    · intro h
      obtain ⟨e0, he0, rfl⟩ := List.mem_map.mp h
      refine List.mem_map.mpr ⟨(e0.1, told e0.2), List.mem_map.mpr ⟨e0, (hg e0).mpr he0, rfl⟩, ?_⟩
      exact bitsN_told (r.lt _ ((r.mem _).mp h))
  refine ⟨(mm 0).mpr .zero, fun b hb => ⟨fun d hd => (mm _).mpr (.lay ((mm b).mp hb) hd), fun s hs => (mm _).mpr (.off ((mm b).mp hb) hs)⟩⟩
theorem run12 (k3 : Kit3 C G pt p kd D S q n ds ss es fs rs) (sG : Same G H) (kl : KRow H Dl ls n) (r3 : RowsAt H q3 rs3 (Cl ds ss (· ∈ bitsOf ls))) (k : ∀ H', Same H H' → Dn.nx [vr pt, vi n, vr D, vr S, vr p, vr q, vr tq, u, vr Dl, none, vr q2, some (.str (sho ls)), vr q3, none] H') :
    w12 K C Dn [vr pt, vi n, vr D, vr S, vr p, vr q, vr tq, u, vr Dl, none, vr q2, some (.str (sho ls)), vr q3, none] H := by
  have lt : ∀ x, Cl ds ss (· ∈ bitsOf ls) x → x < 2 ^ n := fun x h => h.lt k3.st.dn kl.lt
  refine ⟨_, rfl, _, rfl, p, q3, n, ds, ss, kd, _, rfl, k3.st.same sG, r3.lotsIn lt (Same.refl _) rs3 (fun _ => Iff.rfl) rfl (.inl (SqL.of r3.at_)), r3.closed rs3 (fun _ => Iff.rfl), fun H1 s1 => ⟨true, true, rfl, rfl, _, rfl, ?_⟩⟩
  refine iteF ?_
  refine ⟨_, rfl, q3, _, rfl, SqL.of (s1 _ _ r3.at_), fun r hr => ⟨r, _, rfl, .inl ⟨SqL.of upd_same, fun l hl => ?_⟩⟩⟩
  have s2 : Same H1 (upd (upd H1 r (.lst (refs rs3).reverse)) l (.tup (refs rs3).reverse)) := (Same.new hr).trans (Same.new hl)
  have e2 : (upd (upd H1 r (.lst (refs rs3).reverse)) l (.tup (refs rs3).reverse)) l = some (.tup (refs rs3).reverse) := upd_same
  generalize upd (upd H1 r (.lst (refs rs3).reverse)) l (.tup (refs rs3).reverse) = H2 at s2 e2 ⊢
  have er : (refs rs3).reverse = refs rs3.reverse := by
    unfold refs
    rw [List.map_reverse]
  rw [er] at e2
  have s12 := s1.trans s2
  refine ⟨_, rfl, p, l, n, ds, ss, kd, _, rfl, (k3.st.same sG).same s12, r3.lotsIn lt s12 rs3.reverse (fun _ => List.mem_reverse) List.length_reverse (.inr (SqT.of e2)), r3.closed rs3.reverse (fun _ => List.mem_reverse), fun H3 s3 => ⟨true, true, rfl, rfl, _, rfl, ?_⟩⟩
  exact iteF (k H3 (s12.trans s3))
theorem dbl_mem (ls : List (Addr × List Nat)) (x : Nat) : x ∈ bitsOf (ls ++ ls) ↔ x ∈ bitsOf ls := by
  unfold bitsOf
  rw [List.map_append, List.mem_append, or_self]
theorem run13 (k3 : Kit3 C G pt p kd D S q n ds ss es fs rs) (sG : Same G H) (kl : KRow H Dl ls n) (l3 : ls.length ≤ 3) (r2 : RowsAt H q2 rs2 (Cl ds ss (· ∈ bitsOf ls))) (k : ∀ H', Dn.rt (.bl true) H') :
    w13 K C Dn [vr pt, vi n, vr D, vr S, vr p, vr q, vr tq, u, vr Dl, none, vr q2, some (.str (sho ls)), vr q3, none] H := by
  have n8 : n ≤ 8 := by have := k3.n5; omega
  have p256 : 2 ^ n ≤ 256 := pow_le_256 n8
  have kpH := k3.kp.same sG
  obtain ⟨kvs, hkd⟩ := kpH.dict
  refine ⟨_, rfl, p, n, ds, ss, kd, rfl, k3.st.same sG, kpH, fun H1 q4 rs4 b1 st1 kp1 no1 nq ne nl me => ?_⟩
  have lk : ∀ {a : Addr} {xs : List V}, H a = some (.lst xs) → H1 a = some (.lst xs) := fun e => b1 _ _ e fun z => by
    rw [z, hkd] at e
    cases e
  have keep : ∀ {a : Addr} {gs : List (Addr × Nat)} {M : Nat → Prop}, RowsAt H a gs M → RowsAt H1 a gs M := fun r => ⟨lk r.at_, fun e he => lk (r.lot e he), r.sort, r.nd, r.few, r.mem, r.lt⟩
  have kl1 : KRow H1 Dl ls n := ⟨lk kl.at_, kl.few, fun e he => ⟨lk (kl.kind e he).1, (kl.kind e he).2⟩⟩
  have due := keep (k3.due.same sG)
  have r4 : RowsAt H1 q4 rs4 (Cl ds ss NoB) := .of nl me fun x h => Nat.lt_of_lt_of_le (h.lt k3.st.dn fun _ h => h.elim) p256
  dsimp only [tNil]
  refine RowsAt.rep r4 ?_
  show K22.tRep K 5 _ H1 _
  refine RowsAt.tRep rfl due ⟨rfl, _, rfl, ?_⟩
  rw [r4.rows due fun _ => Iff.rfl, decide_eq_true rfl]
  refine iteT ?_
  refine ⟨_, rfl, Dl, refs ls, rfl, .inl ⟨SqL.of kl1.at_, fun t1 ht1 => ⟨_, rfl, Dl, refs ls, rfl, .inl ⟨SqL.of ((Same.new ht1) _ _ kl1.at_), fun t2 ht2 => ?_⟩⟩⟩⟩
  have s2 : Same H1 (upd (upd H1 t1 (.tup (refs ls))) t2 (.tup (refs ls))) := (Same.new ht1).trans (Same.new ht2)
  have e1 : (upd (upd H1 t1 (.tup (refs ls))) t2 (.tup (refs ls))) t1 = some (.tup (refs ls)) := (Same.new ht2) _ _ upd_same
  have e2 : (upd (upd H1 t1 (.tup (refs ls))) t2 (.tup (refs ls))) t2 = some (.tup (refs ls)) := upd_same
  generalize upd (upd H1 t1 (.tup (refs ls))) t2 (.tup (refs ls)) = H2 at s2 e1 e2 ⊢
  -- the end, whatever tuple comes of the sum
  have fin : ∀ (gs : List (Addr × List Nat)) (H3 : Hp) (a : Addr), (∀ e, e ∈ gs → e ∈ ls) → gs.length ≤ 6 → (∀ x, x ∈ bitsOf gs ↔ x ∈ bitsOf ls) → Same H2 H3 → H3 a = some (.tup (refs gs)) →
      spClosure K C [.ref p, .ref a] H3 (fun v H4 => rReprD K [v] H4 fun x H5 => K22.tRep K 10 [vr pt, vi n, vr D, vr S, vr p, vr q, vr tq, u, vr Dl, none, vr q2, some (.str (sho ls)), vr q3, none] H5 fun y H6 => rEq x y H6 Dn.rt) C8.E0 := by
    intro gs H3 a hin l6 mb s3 ea
    have s13 := s2.trans s3
    refine ⟨p, a, n, ds, ss, kd, gs, rfl, st1.same s13, ⟨.inr (SqT.of ea), by omega, fun e he => ⟨.inl (SqL.of (s13 _ _ (kl1.kind e (hin e he)).1)), (kl1.kind e (hin e he)).2.good⟩⟩, fun H4 q5 rs5 s4 nl5 me5 => ?_⟩
    have me6 : ∀ x, x ∈ rs5.map (·.2) ↔ Cl ds ss (· ∈ bitsOf ls) x := fun x => (me5 x).trans (Cl.iff (fun _ => Iff.rfl) (fun _ => Iff.rfl) mb x)
    have r5 : RowsAt H4 q5 rs5 (Cl ds ss (· ∈ bitsOf ls)) := .of nl5 me6 fun x h => Nat.lt_of_lt_of_le (h.lt k3.st.dn kl.lt) p256
    have r6 := (keep r2).same (s13.trans s4)
    refine RowsAt.rep r5 (RowsAt.tRep rfl r6 ⟨rfl, ?_⟩)
    rw [r5.rows r6 fun _ => Iff.rfl, decide_eq_true rfl]
    exact k H4
  refine ⟨t1, t2, refs ls, refs ls, rfl, rfl, SqT.of e1, SqT.of e2, ?_, fun z => ?_, fun z1 z2 => absurd z2 z1, fun _ _ t3 ht3 => ?_⟩
  · rw [List.length_map]
    exact Nat.le_trans (by omega : ls.length + ls.length ≤ 1000) (by decide)
  · exact ⟨_, rfl, fin ls H2 t2 (fun _ h => h) (by omega) (fun _ => Iff.rfl) (Same.refl _) e2⟩
  · have e3 : (upd H2 t3 (.tup (refs ls ++ refs ls))) t3 = some (.tup (refs (ls ++ ls))) := by
      rw [upd_same]
      unfold refs
      rw [List.map_append]
    exact ⟨_, rfl, fin (ls ++ ls) _ t3 (fun e h => (List.mem_append.mp h).elim id id) (by rw [List.length_append]; omega) (dbl_mem ls) (Same.new ht3) e3⟩
end
end K22
/-! _law_right and law joined; what the top has written. -/
namespace K22
open PySem PySem.Spec L2
theorem sc56 : FnScope N56 ["_law_pot_here"] (defScope (top 56)) := ⟨rfl, rfl, rfl, by decide +kernel, rfl, by decide +kernel, by decide +kernel⟩
def spRight : Sp := fun vs H Q _ => ∃ pt : Addr, vs = [.ref pt] ∧ PotAt H pt ∧ ∀ H', Q (.bl true) H'
/-- what _law_right calls -/
structure Calls (P : Program) (w : World) (K : PySem.W.Frag) (mg : Str → Option Value) (base : Heap) (C : Addr) : Prop where
  parts : C8.Cal P w K mg base 4 "_law_parts" spParts []
  store : C8.Mak P w K mg base 6 "Store" C (spInit K C) []
  closed : C8.Cal P w K mg base 2 "_law_closed" spLawClosed []
  flat_lots : AtOk P w K mg base 5 "flat_lots" (top 42) ["store"] (spFlatLots C)
  all_lots : C8.Cal P w K mg base 1 "_law_all_lots" spAllLots []
  is_flat : AtOk P w K mg base 6 "is_flat" (top 43) ["store", "lot"] (spIsFlat K C)
  draw : C8.Cal P w K mg base 1 "_law_draw" spDraw []
  kind : C8.Cal P w K mg base 2 "_law_kind" spKind []
  closure : AtOk P w K mg base 5 "closure" (top 44) ["store", "lots"] (spClosure K C)
  is_closed : AtOk P w K mg base 6 "is_closed" (top 45) ["store", "value"] (spIsClosed K C)
theorem both {α : Type} {A B : α → Prop} {t : α} (h : A t) (h2 : B t) : ∃ t, A t ∧ B t := ⟨t, h, h2⟩
theorem walk_right {K : PySem.W.Frag} {C : Addr} {Dn : Ends} {H : Hp} {pt : Addr} (hp : PotAt H pt) (k : ∀ H', Dn.rt (.bl true) H') : wRight K C Dn [vr pt, none, none, none, none, none, none, none, none, none, none, none, none, none] H := by
  refine run1 hp fun H1 D S n es fs k1 => ?_
  refine run2 k1 fun H2 p kd q ds ss rs k2 => ?_
  refine run3 k2 fun G H3 tq ts k3 s3 p3 td => ?_
  refine run4 k3 s3 td fun H4 s4 => ?_
  refine run5 k3 (s3.trans s4) fun H5 u s5 => ?_
  have s45 := s4.trans s5
  refine run67 (s3.trans s45) (p3.same s45) (td.same s45) fun H7 s7 p7 => ?_
  refine run8 k3 s7 p7 fun H8 Dl ls s8 kl l3 => ?_
  refine run9 k3 s8 kl fun H9 q2 rs2 s9 r2 => ?_
  have s89 := s8.trans s9
  have kl9 := kl.same s9
  refine run10 k3 s89 kl9 fun H10 q3 rs3 s10 r3 => ?_
  refine run11 k3 (s89.trans s10) (kl9.same s10) (r2.same s10) r3 fun H11 s11 => ?_
  have t11 := s10.trans s11
  refine run12 k3 (s89.trans t11) (kl9.same t11) (r3.same s11) fun H12 s12 => ?_
  exact run13 k3 (s89.trans (t11.trans s12)) (kl9.same (t11.trans s12)) l3 (r2.same (t11.trans s12)) k
section
variable {P : Program} {w : World} {K : PySem.W.Frag} {mg : Str → Option Value} {base : Heap} {C : Addr}
theorem ok_right (T : Txt mg) (a : IsAt K mg "_law_right" 56 ["_law_pot_here"]) (c : Calls P w K mg base C) : ∃ f fd, At K mg "_law_right" (top 56) ["_law_pot_here"] f fd ∧ FnG P w K mg base 8 f fd ["_law_pot_here"] spRight := by
  obtain ⟨f, fd, a⟩ := a
  refine ⟨f, fd, a, FnG.of a.F sc56 (fun vs H Q E h => ?_) (fun cdv A outer s H vs Q E hg hr h => ?_)⟩
  · obtain ⟨p, rfl, _⟩ := h
    rfl
  · obtain ⟨pt, rfl, hp, k⟩ := h
    have hun : A.units + 3 + 16 * 7 + 200 < cLine := hr.un
    have hu : A.units + 3 + 64 < cLine := by omega
    have hu5 : A.units + 3 + 65 < cLine := by omega
    have nd := sc56.nd
    apply both
    case h =>
      exact
        pss_cons (ps_asg (C8.pe_c c.parts hr (by decide) (by rfl) (pa_cons (pv 0) (pa_cons pe_int pa_nil))) (pg_tup (by rfl) (pgs_cons (pg_name (i := 1) nd rfl (Or.inr rfl)) (pgs_cons (pg_name (i := 2) nd rfl (Or.inl rfl)) (pgs_cons (pg_name (i := 3) nd rfl (Or.inl rfl)) pgs_nil))))) (
        pss_cons (ps_par (i := 4) (j := 5) rfl nd rfl rfl (by decide) rfl rfl (pa_cons (C8.pe_mk c.store hr (by decide) (by rfl) (pa_cons (pv 1) (pa_cons (pv 2) (pa_cons (pv 3) pa_nil)))) (pa_cons (C8.pe_c c.closed hr (by decide) (by rfl) (pa_cons (pv 2) (pa_cons (pv 3) (pa_cons (pe_lst pa_nil) pa_nil)))) pa_nil)) (by rfl)) (
        pss_cons (ps_set (i := 6) nd rfl (Or.inl rfl) (C8.pe_c c.flat_lots.cal hr (by decide) (by rfl) (pa_cons (pv 4) pa_nil))) (
        pss_cons (ps_if (PW.pt (pw_or (pt_cmpR op_ne (pe_callB (cr_reprD hg hu) (by rfl) T.repr (by decide +kernel) (pa_cons (pv 6) pa_nil)) (pe_callB (cr_reprD hg hu) (by rfl) T.repr (by decide +kernel) (pa_cons (pv 5) pa_nil)) (nomark _))
          (pw_or1 (PW.pt (pw_and (pt_cmpR (op_eqD hu) (pv 2) (pe_lst pa_nil) (nomark _)) (pw_and1 (pt_cmpR (op_neD hu) (pv 6) (pe_lst (pa_cons (pe_lst pa_nil) pa_nil)) (nomark _)))))))) (pss_one (ps_ret pe_bl)) pss_nil) (
        pss_cons (ps_for PassesOwn.never rfl (pi_list (C8.pe_c c.all_lots hr (by decide) (by rfl) (pa_cons (pv 1) pa_nil))) (pg_name (i := 7) nd rfl (Or.inl rfl))
        (pss_one (ps_if (PW.pt (pw_or (pt_cmpR op_ne (pe_callB cr_reprB (by rfl) T.repr (by decide +kernel) (pa_cons (C8.pe_c c.is_flat.cal hr (by decide) (by rfl) (pa_cons (pv 4) (pa_cons (pv 7) pa_nil))) pa_nil))
            (pe_callB cr_reprB (by rfl) T.repr (by decide +kernel) (pa_cons (pe_cmpR (op_inD hu5) (pv 7) (pv 5) (by with_unfolding_all rfl)) pa_nil)) (nomark _))
          (pw_or1 (pt_cmpR op_ne (AtOk.pe_k c.is_flat hr (by decide) (by rfl) (fun _ _ F => kb_is_flat F) (pk_cons (pe_callTy call_tuple_of (by rfl) T.tuple (by decide +kernel) (pa_cons (pe_revL (pv 7)) pa_nil)) (pk_cons (pv 4) pk_nil)))
            (pe_cmpR (op_inD hu5) (pv 7) (pv 5) (by with_unfolding_all rfl)) (nomark _))))) (pss_one (ps_ret pe_bl)) pss_nil))) (
        pss_cons (ps_expr (pe_bm PySem.F.plainAttrs_list PySem.F.slot_list_append PySem.F.type_list_append mt_append (pe_ix ix_list (pv 6) pe_int (fun _ _ => rfl)) (pa_cons pe_non pa_nil))) (
        pss_cons (ps_expr (pe_bm PySem.F.plainAttrs_list PySem.F.slot_list_append PySem.F.type_list_append mt_append (pv 6) (pa_cons pe_non pa_nil))) (
        pss_cons (ps_setLc (i := 8) (own := [("_law_turn", 9)]) (by rfl) nd rfl rfl (by rfl) (pi_range1 (by rfl) T.range (pa_cons (C8.pe_c c.draw hr (by decide) (by rfl) (pa_cons (pv 0) (pa_cons pe_int pa_nil))) pa_nil)) (blkOk_by (N := N56) (sc := defScope (top 56)) (by decide +kernel)) (fun _ _ _ _ _ => pg_name (i := 9) nd rfl (Or.inl rfl)) (fun _ _ _ _ _ => pts_nil)
        (fun _ _ _ _ _ => C8.pe_c c.kind hr (by decide) (by rfl) (pa_cons (pv 0) (pa_cons (pv 1) pa_nil)))) (
        pss_cons (ps_asg (pe_tup (pa_cons (C8.pe_c c.closed hr (by decide) (by rfl) (pa_cons (pv 2) (pa_cons (pv 3) (pa_cons (pv 8) pa_nil)))) (pa_cons (pe_callB (cr_reprD hg hu) (by rfl) T.repr (by decide +kernel) (pa_cons (pv 8) pa_nil)) pa_nil)))
        (pg_tup (by rfl) (pgs_cons (pg_name (i := 10) nd rfl (Or.inr rfl)) (pgs_cons (pg_name (i := 11) nd rfl (Or.inl rfl)) pgs_nil)))) (
        pss_cons (ps_set (i := 12) nd rfl (Or.inl rfl) (C8.pe_c c.closure.cal hr (by decide) (by rfl) (pa_cons (pv 4) (pa_cons
        (pe_lc (own := [("_law_lot", 13)]) (by rfl) nd (pi_list (pv 8)) (blkOk_by (N := N56) (sc := defScope (top 56)) (by decide +kernel)) (fun _ _ _ _ _ => pg_name (i := 13) nd rfl (Or.inl rfl)) (fun _ _ _ _ _ => pts_nil)
          (fun _ _ _ _ _ => show PE _ _ (tRevL K (tVar 13)) from pe_revL (pv 13))) pa_nil)))) (
        pss_cons (ps_if (PW.pt (pw_or (pt_cmpR op_ne (pe_callB (cr_reprD hg hu) (by rfl) T.repr (by decide +kernel) (pa_cons (pv 12) pa_nil)) (pe_callB (cr_reprD hg hu) (by rfl) T.repr (by decide +kernel) (pa_cons (pv 10) pa_nil)) (nomark _))
          (pw_or (pt_cmpR op_ne (pe_callB (cr_reprD hg hu) (by rfl) T.repr (by decide +kernel) (pa_cons (pv 8) pa_nil)) (pv 11) (nomark _))
          (pw_or1 (pt_not (pt_val (pe_callB (cr_all rfl) (by rfl) T.all (by decide +kernel) (pa_cons
            (pe_lc (own := [("_law_one", 7)]) (by rfl) nd (pi_list (pv 5)) (blkOk_by (N := N56) (sc := defScope (top 56)) (by decide +kernel)) (fun _ _ _ _ _ => pg_name (i := 7) nd rfl (Or.inl rfl)) (fun _ _ _ _ _ => pts_nil)
              (fun _ _ _ _ _ => show PE _ _ (tOp (rInD K) (tVar 7) (tVar 10)) from pe_cmpR (op_inD hu5) (pv 7) (pv 10) (by with_unfolding_all rfl))) pa_nil)))))))) (pss_one (ps_ret pe_bl)) pss_nil) (
        pss_cons (ps_if (PW.pt (pw_or (pt_cmpR op_notBl (C8.pe_c c.is_closed.cal hr (by decide) (by rfl) (pa_cons (pv 4) (pa_cons (pv 12) pa_nil))) pe_bl (nomark _))
          (pw_or1 (pt_cmpR op_notBl (AtOk.pe_k c.is_closed hr (by decide) (by rfl) (fun _ _ F => kb_is_closed F) (pk_cons (pe_callTy call_tuple_of (by rfl) T.tuple (by decide +kernel) (pa_cons (pe_revL (pv 12)) pa_nil)) (pk_cons (pv 4) pk_nil))) pe_bl (nomark _))))) (pss_one (ps_ret pe_bl)) pss_nil) (
        pss_one (ps_ret (pe_and
        (pe_cmpR op_eq (pe_callB (cr_reprD hg hu) (by rfl) T.repr (by decide +kernel) (pa_cons (AtOk.pe_k c.flat_lots hr (by decide) (by rfl) (fun _ _ F => kb_flat F) (pk_cons (pv 4) pk_nil)) pa_nil)) (pe_callB (cr_reprD hg hu) (by rfl) T.repr (by decide +kernel) (pa_cons (pv 5) pa_nil)) (nomark _))
        (pe_one (pe_cmpR op_eq (pe_callB (cr_reprD hg hu) (by rfl) T.repr (by decide +kernel) (pa_cons (AtOk.pe_k c.closure hr (by decide) (by rfl) (fun _ _ F => kb_closure F) (pk_cons (pe_op op_catA (pe_callTy call_tuple_of (by rfl) T.tuple (by decide +kernel) (pa_cons (pv 8) pa_nil)) (pe_callTy call_tuple_of (by rfl) T.tuple (by decide +kernel) (pa_cons (pv 8) pa_nil))) (pk_cons (pv 4) pk_nil))) pa_nil))
          (pe_callB (cr_reprD hg hu) (by rfl) T.repr (by decide +kernel) (pa_cons (pv 10) pa_nil)) (nomark _)))))))))))))))))
    case h2 => exact walk_right (K := K) (C := C) hp k
abbrev N57 : List Str := ["_law_script"]
theorem sc57 : FnScope N57 ["_law_script"] (defScope (top 57)) := ⟨rfl, rfl, rfl, by decide +kernel, rfl, by decide +kernel, by decide +kernel⟩
def spLaw (K : PySem.W.Frag) : Sp := fun vs H Q _ => ∃ (a : Addr) (ns : List Int), vs = [.ref a] ∧ SqL K H a (ns.map V.int) ∧ ∀ H', Q (.bl true) H'
theorem ok_law (a : IsAt K mg "law" 57 ["_law_script"]) (c1 : C8.Cal P w K mg base 1 "_law_pot" (spPot K) []) (c2 : ∃ f fd, At K mg "_law_right" (top 56) ["_law_pot_here"] f fd ∧ FnG P w K mg base 8 f fd ["_law_pot_here"] spRight) :
    ∃ f fd, At K mg "law" (top 57) ["_law_script"] f fd ∧ FnG P w K mg base 9 f fd ["_law_script"] (spLaw K) := by
  obtain ⟨f, fd, a⟩ := a
  obtain ⟨f2, fd2, a2, F2⟩ := c2
  refine ⟨f, fd, a, FnG.of a.F sc57 (fun vs H Q E h => ?_) (fun cdv A outer s H vs Q E hg hr h => ?_)⟩
  · obtain ⟨p, ns, rfl, _⟩ := h
    rfl
  · obtain ⟨a, ns, rfl, ha, k⟩ := h
    refine ⟨_, pss_one (ps_ret (pe_callG F2 hg hr (by rfl) a2.g a2.F.kp a2.b (pa_cons (C8.pe_c c1 hr (by decide) (by rfl) (pa_cons (pv 0) (pa_cons pe_int pa_nil))) pa_nil))), ?_⟩
    exact ⟨_, rfl, a, ns, rfl, ha, fun H1 pt s1 h0 p1 => ⟨pt, rfl, p1, k⟩⟩
/-- what the top has written -/
structure Defs (K : PySem.W.Frag) (mg : Str → Option Value) (C : Addr) : Prop where
  T : Txt mg
  t : StTxt K mg C
  ini : ∃ f fd, Fun K "__init__" "Store.__init__" sInit f fd ∧ Mk K C f ∧ Binds K fd ["self", "shelves", "deliveries", "sales"] []
  a9 : IsAt K mg "is_integer" 9 ["value"]
  a10 : IsAt K mg "is_count" 10 ["value"]
  a11 : IsAt K mg "is_list" 11 ["value"]
  a15 : IsAt K mg "are_shelves" 15 ["value"]
  a16 : IsAt K mg "want_shelves" 16 ["value"]
  a17 : IsAt K mg "is_lot_of" 17 ["shelves", "value"]
  a18 : IsAt K mg "want_lot" 18 ["shelves", "value"]
  a19 : IsAt K mg "bits_of" 19 ["lot"]
  a20 : IsAt K mg "spots_of" 20 ["bits"]
  a21 : IsAt K mg "told_lot" 21 ["bits"]
  a24 : IsAt K mg "is_kind" 24 ["shelves", "value"]
  a25 : IsAt K mg "are_kinds" 25 ["shelves", "value"]
  a26 : IsAt K mg "plain_kinds" 26 ["kinds"]
  a28 : IsAt K mg "want_store" 28 ["value"]
  a29 : IsAt K mg "want_lot_of" 29 ["store", "value"]
  a31 : IsAt K mg "step_behind" 31 ["store", "bits", "opened"]
  a32 : IsAt K mg "row_to" 32 ["store", "bits"]
  a35 : IsAt K mg "led_on" 35 ["store", "bits"]
  a36 : IsAt K mg "closed_from" 36 ["store", "some"]
  a37 : IsAt K mg "told_lots" 37 ["some"]
  a38 : IsAt K mg "flat_bits" 38 ["store"]
  a39 : IsAt K mg "flats_of" 39 ["store"]
  a40 : IsAt K mg "are_lots" 40 ["store", "value"]
  a41 : IsAt K mg "is_closed_of" 41 ["store", "value"]
  a42 : IsAt K mg "flat_lots" 42 ["store"]
  a43 : IsAt K mg "is_flat" 43 ["store", "lot"]
  a44 : IsAt K mg "closure" 44 ["store", "lots"]
  a45 : IsAt K mg "is_closed" 45 ["store", "value"]
  a47 : IsAt K mg "_law_pot" 47 ["_law_script", "_law_k"]
  a48 : IsAt K mg "_law_draw" 48 ["_law_pot_here", "_law_many"]
  a49 : IsAt K mg "_law_kind" 49 ["_law_pot_here", "_law_shelves"]
  a50 : IsAt K mg "_law_kinds" 50 ["_law_pot_here", "_law_shelves", "_law_most"]
  a51 : IsAt K mg "_law_parts" 51 ["_law_pot_here", "_law_most"]
  a52 : IsAt K mg "_law_laid" 52 ["_law_lot", "_law_kind_here"]
  a53 : IsAt K mg "_law_off" 53 ["_law_lot", "_law_kind_here"]
  a54 : IsAt K mg "_law_closed" 54 ["_law_deliveries", "_law_sales", "_law_lots"]
  a55 : IsAt K mg "_law_all_lots" 55 ["_law_shelves"]
  a56 : IsAt K mg "_law_right" 56 ["_law_pot_here"]
  a57 : IsAt K mg "law" 57 ["_law_script"]
theorem ok_all (d : Defs K mg C) : ∃ f fd, At K mg "law" (top 57) ["_law_script"] f fd ∧ FnG P w K mg base 9 f fd ["_law_script"] (spLaw K) := by
  have T := d.T
  have t := d.t
  have is_integer := ok_is_integer (P := P) (w := w) (base := base) T d.a9
  have is_count := ok_is_count T d.a10 is_integer
  have is_list := ok_is_list (P := P) (w := w) (base := base) T d.a11
  have are_shelves := ok_are_shelves T d.a15 is_count
  have want_shelves := ok_want_shelves d.a16 are_shelves
  have bits_of := ok_bits_of (P := P) (w := w) (base := base) d.a19
  have is_lot_of := ok_is_lot_of T d.a17 is_list is_count
  have want_lot := ok_want_lot d.a18 is_lot_of bits_of
  have spots_of := ok_spots_of (P := P) (w := w) (base := base) T d.a20
  have told_lot := ok_told_lot T d.a21 spots_of
  have is_kind := ok_is_kind T d.a24 is_lot_of
  have are_kinds := ok_are_kinds T d.a25 is_list is_kind
  have plain_kinds := ok_plain_kinds T d.a26 bits_of told_lot
  have want_store := ok_want_store (P := P) (w := w) (base := base) T t d.a28
  have want_lot_of := ok_want_lot_of t d.a29 want_lot
  obtain ⟨f0, fd0, F0, M0, b0⟩ := d.ini
  have store := ok_init t F0 M0 b0 want_shelves are_kinds bits_of plain_kinds
  have step_behind := ok_step_behind (P := P) (w := w) (base := base) T t d.a31
  have row_to := ok_row_to t d.a32 step_behind
  have led_on := ok_led_on (P := P) (w := w) (base := base) t d.a35
  have closed_from := ok_closed_from T d.a36 led_on
  have told_lots := ok_told_lots T d.a37 told_lot
  have flat_bits := ok_flat_bits T t d.a38 closed_from
  have flats_of := ok_flats_of d.a39 told_lots flat_bits
  have flat_lots := ok_flat_lots d.a42 want_store flats_of
  have are_lots := ok_are_lots T t d.a40 is_list is_lot_of
  have is_flat := ok_is_flat d.a43 want_store row_to want_lot_of
  have closure := ok_closure T d.a44 want_store are_lots told_lots closed_from bits_of
  have is_closed_of := ok_is_closed_of T d.a41 are_lots bits_of led_on
  have is_closed := ok_is_closed d.a45 want_store is_closed_of
  have pot := ok_pot (P := P) (w := w) (base := base) T d.a47
  have draw := ok_draw (P := P) (w := w) (base := base) T d.a48
  have kind := ok_kind T d.a49 draw
  have kinds := ok_kinds T d.a50 draw kind
  have parts := ok_parts d.a51 draw kinds
  have laid := ok_laid (P := P) (w := w) (base := base) T d.a52
  have off := ok_off (P := P) (w := w) (base := base) d.a53
  have closed := ok_law_closed T d.a54 laid off
  have all_lots := ok_all_lots (P := P) (w := w) (base := base) T d.a55
  exact ok_law d.a57 pot (ok_right T d.a56 ⟨parts, store, closed, flat_lots, all_lots, is_flat, draw, kind, closure, is_closed⟩)
theorem isAt_mk {h : Heap} {x : Str} {i : Nat} {ps : List Str} {f : Addr} {oc : Value} {od an : Option Addr} {osl : Array (Option Value)} {kV doc pm cdv ct : Value} (X : K.In h) (G : h.Ns mainGlobals mg) (a : PySem.W.nsIn K mainGlobals x = some (some (.ref f)))
    (l : K.lookup f = some ⟨oc, od, .func (PySem.W.fnOf x x (defArgs (top i)) (defBody (top i)) (defScope (top i)) .none kV doc pm an cdv ct), osl⟩) (c : PySem.W.codeIn K cdv x = true) (k : PySem.W.keepIn K (.ref f) = true)
    (b : ∀ (kV doc pm : Value) (an : Option Addr) (cdv ct : Value) (us : List Value), us.length = ps.length → bindArgs (PySem.W.fnOf x x (defArgs (top i)) (defBody (top i)) (defScope (top i)) .none kV doc pm an cdv ct) ⟨us, []⟩ = pure (ps.zip us)) : IsAt K mg x i ps :=
  ⟨f, _, fun_mk l c k, PySem.W.mg_of X G a, (fun_mk l c k).binds b⟩
end
theorem all_mk {l : PySem.W.OpenLaw} {w : World} {K : PySem.W.Frag} {h : Heap} {mg : Str → Option Value} {fa : Addr} {f9 f10 f11 f15 f16 f17 f18 f19 f20 f21 f24 f25 f26 f28 f29 f31 f32 f35 f36 f37 f38 f39 f40 f41 f42 f43 f44 f45 f47 f48 f49 f50 f51 f52 f53 f54 f55 f56 f57 f0 C : Addr} (X : K.In h) (G : h.Ns mainGlobals mg) (hfa : mg "law" = some (.ref fa))
    {od9 an9 od10 an10 od11 an11 od15 an15 od16 an16 od17 an17 od18 an18 od19 an19 od20 an20 od21 an21 od24 an24 od25 an25 od26 an26 od28 an28 od29 an29 od31 an31 od32 an32 od35 an35 od36 an36 od37 an37 od38 an38 od39 an39 od40 an40 od41 an41 od42 an42 od43 an43 od44 an44 od45 an45 od47 an47 od48 an48 od49 an49 od50 an50 od51 an51 od52 an52 od53 an53 od54 an54 od55 an55 od56 an56 od57 an57 od0 an0 : Option Addr} {sl9 sl10 sl11 sl15 sl16 sl17 sl18 sl19 sl20 sl21 sl24 sl25 sl26 sl28 sl29 sl31 sl32 sl35 sl36 sl37 sl38 sl39 sl40 sl41 sl42 sl43 sl44 sl45 sl47 sl48 sl49 sl50 sl51 sl52 sl53 sl54 sl55 sl56 sl57 sl0 : Array (Option Value)}
    {oc9 kV9 dc9 pm9 cd9 ct9 oc10 kV10 dc10 pm10 cd10 ct10 oc11 kV11 dc11 pm11 cd11 ct11 oc15 kV15 dc15 pm15 cd15 ct15 oc16 kV16 dc16 pm16 cd16 ct16 oc17 kV17 dc17 pm17 cd17 ct17 oc18 kV18 dc18 pm18 cd18 ct18 oc19 kV19 dc19 pm19 cd19 ct19 oc20 kV20 dc20 pm20 cd20 ct20 oc21 kV21 dc21 pm21 cd21 ct21 oc24 kV24 dc24 pm24 cd24 ct24 oc25 kV25 dc25 pm25 cd25 ct25 oc26 kV26 dc26 pm26 cd26 ct26 oc28 kV28 dc28 pm28 cd28 ct28 oc29 kV29 dc29 pm29 cd29 ct29 oc31 kV31 dc31 pm31 cd31 ct31 oc32 kV32 dc32 pm32 cd32 ct32 oc35 kV35 dc35 pm35 cd35 ct35 oc36 kV36 dc36 pm36 cd36 ct36 oc37 kV37 dc37 pm37 cd37 ct37 oc38 kV38 dc38 pm38 cd38 ct38 oc39 kV39 dc39 pm39 cd39 ct39 oc40 kV40 dc40 pm40 cd40 ct40 oc41 kV41 dc41 pm41 cd41 ct41 oc42 kV42 dc42 pm42 cd42 ct42 oc43 kV43 dc43 pm43 cd43 ct43 oc44 kV44 dc44 pm44 cd44 ct44 oc45 kV45 dc45 pm45 cd45 ct45 oc47 kV47 dc47 pm47 cd47 ct47 oc48 kV48 dc48 pm48 cd48 ct48 oc49 kV49 dc49 pm49 cd49 ct49 oc50 kV50 dc50 pm50 cd50 ct50 oc51 kV51 dc51 pm51 cd51 ct51 oc52 kV52 dc52 pm52 cd52 ct52 oc53 kV53 dc53 pm53 cd53 ct53 oc54 kV54 dc54 pm54 cd54 ct54 oc55 kV55 dc55 pm55 cd55 ct55 oc56 kV56 dc56 pm56 cd56 ct56 oc57 kV57 dc57 pm57 cd57 ct57 oc0 kV0 dc0 pm0 cd0 ct0 : Value} {uleast ushelves ukinds ulots : Value}
    (aC : PySem.W.nsIn K mainGlobals "Store" = some (some (.ref C)))
    (i0 : PySem.W.findIn K (.ref C) "__init__" = some (some (.ref f0))) (n0 : PySem.W.isFn K (.ref f0) = true) (l0 : K.lookup f0 = some ⟨oc0, od0, .func (PySem.W.fnOf "__init__" "Store.__init__" (defArgs sInit) (defBody sInit) (defScope sInit) .none kV0 dc0 pm0 an0 cd0 ct0), sl0⟩) (c0 : PySem.W.codeIn K cd0 "Store.__init__" = true) (k0 : PySem.W.keepIn K (.ref f0) = true)
    (pg : PySem.W.plainGet K C Str.empty = true) (hd : PySem.W.hasDictIn K C = true) (po : PySem.W.plainOver K C = true) (sa : PySem.W.findIn K (.ref C) "__setattr__" = some (some (.builtin "object.__setattr__"))) (mk : PySem.W.makesIn K C = true) (kc : PySem.W.keepIn K (.ref C) = true)
    (ca : PySem.W.findIn K (.ref C) "__class__" = some (some (.builtin "object.__class__"))) (cn : PySem.W.specialIn K (.builtin "object.__class__") "__get__" = some (some (.builtin "getset_descriptor.__get__"))) (ctk : PySem.W.takesIn K (.builtin "object.__class__") = some true) (cm : PySem.W.mroIn K C (.type "object") = some true)
    (nh : PySem.W.findIn K (.ref C) "own_shelves" = some none) (nd : PySem.W.findIn K (.ref C) "own_deliveries" = some none) (ns : PySem.W.findIn K (.ref C) "own_sales" = some none) (nk : PySem.W.findIn K (.ref C) "own_kept" = some none)
    (z_isinstance : PySem.W.nsIn K mainGlobals "isinstance" = some none)
    (z_int : PySem.W.nsIn K mainGlobals "int" = some none)
    (z_bool : PySem.W.nsIn K mainGlobals "bool" = some none)
    (z_list : PySem.W.nsIn K mainGlobals "list" = some none)
    (z_tuple : PySem.W.nsIn K mainGlobals "tuple" = some none)
    (z_all : PySem.W.nsIn K mainGlobals "all" = some none)
    (z_len : PySem.W.nsIn K mainGlobals "len" = some none)
    (z_sorted : PySem.W.nsIn K mainGlobals "sorted" = some none)
    (z_set : PySem.W.nsIn K mainGlobals "set" = some none)
    (z_range : PySem.W.nsIn K mainGlobals "range" = some none)
    (z_enumerate : PySem.W.nsIn K mainGlobals "enumerate" = some none)
    (z_sum : PySem.W.nsIn K mainGlobals "sum" = some none)
    (z_abs : PySem.W.nsIn K mainGlobals "abs" = some none)
    (z_max : PySem.W.nsIn K mainGlobals "max" = some none)
    (z_divmod : PySem.W.nsIn K mainGlobals "divmod" = some none)
    (z_repr : PySem.W.nsIn K mainGlobals "repr" = some none)
    (y_least : PySem.W.nsIn K mainGlobals "LEAST_SHELVES" = some (some uleast)) (r_least : RelV (.int 2) uleast)
    (y_shelves : PySem.W.nsIn K mainGlobals "MOST_SHELVES" = some (some ushelves)) (r_shelves : RelV (.int 8) ushelves)
    (y_kinds : PySem.W.nsIn K mainGlobals "MOST_KINDS" = some (some ukinds)) (r_kinds : RelV (.int 8) ukinds)
    (y_lots : PySem.W.nsIn K mainGlobals "MOST_LOTS" = some (some ulots)) (r_lots : RelV (.int 256) ulots)
    (a9 : PySem.W.nsIn K mainGlobals "is_integer" = some (some (.ref f9))) (l9 : K.lookup f9 = some ⟨oc9, od9, .func (PySem.W.fnOf "is_integer" "is_integer" (defArgs (top 9)) (defBody (top 9)) (defScope (top 9)) .none kV9 dc9 pm9 an9 cd9 ct9), sl9⟩) (c9 : PySem.W.codeIn K cd9 "is_integer" = true) (k9 : PySem.W.keepIn K (.ref f9) = true)
    (a10 : PySem.W.nsIn K mainGlobals "is_count" = some (some (.ref f10))) (l10 : K.lookup f10 = some ⟨oc10, od10, .func (PySem.W.fnOf "is_count" "is_count" (defArgs (top 10)) (defBody (top 10)) (defScope (top 10)) .none kV10 dc10 pm10 an10 cd10 ct10), sl10⟩) (c10 : PySem.W.codeIn K cd10 "is_count" = true) (k10 : PySem.W.keepIn K (.ref f10) = true)
    (a11 : PySem.W.nsIn K mainGlobals "is_list" = some (some (.ref f11))) (l11 : K.lookup f11 = some ⟨oc11, od11, .func (PySem.W.fnOf "is_list" "is_list" (defArgs (top 11)) (defBody (top 11)) (defScope (top 11)) .none kV11 dc11 pm11 an11 cd11 ct11), sl11⟩) (c11 : PySem.W.codeIn K cd11 "is_list" = true) (k11 : PySem.W.keepIn K (.ref f11) = true)
    (a15 : PySem.W.nsIn K mainGlobals "are_shelves" = some (some (.ref f15))) (l15 : K.lookup f15 = some ⟨oc15, od15, .func (PySem.W.fnOf "are_shelves" "are_shelves" (defArgs (top 15)) (defBody (top 15)) (defScope (top 15)) .none kV15 dc15 pm15 an15 cd15 ct15), sl15⟩) (c15 : PySem.W.codeIn K cd15 "are_shelves" = true) (k15 : PySem.W.keepIn K (.ref f15) = true)
    (a16 : PySem.W.nsIn K mainGlobals "want_shelves" = some (some (.ref f16))) (l16 : K.lookup f16 = some ⟨oc16, od16, .func (PySem.W.fnOf "want_shelves" "want_shelves" (defArgs (top 16)) (defBody (top 16)) (defScope (top 16)) .none kV16 dc16 pm16 an16 cd16 ct16), sl16⟩) (c16 : PySem.W.codeIn K cd16 "want_shelves" = true) (k16 : PySem.W.keepIn K (.ref f16) = true)
    (a17 : PySem.W.nsIn K mainGlobals "is_lot_of" = some (some (.ref f17))) (l17 : K.lookup f17 = some ⟨oc17, od17, .func (PySem.W.fnOf "is_lot_of" "is_lot_of" (defArgs (top 17)) (defBody (top 17)) (defScope (top 17)) .none kV17 dc17 pm17 an17 cd17 ct17), sl17⟩) (c17 : PySem.W.codeIn K cd17 "is_lot_of" = true) (k17 : PySem.W.keepIn K (.ref f17) = true)
    (a18 : PySem.W.nsIn K mainGlobals "want_lot" = some (some (.ref f18))) (l18 : K.lookup f18 = some ⟨oc18, od18, .func (PySem.W.fnOf "want_lot" "want_lot" (defArgs (top 18)) (defBody (top 18)) (defScope (top 18)) .none kV18 dc18 pm18 an18 cd18 ct18), sl18⟩) (c18 : PySem.W.codeIn K cd18 "want_lot" = true) (k18 : PySem.W.keepIn K (.ref f18) = true)
    (a19 : PySem.W.nsIn K mainGlobals "bits_of" = some (some (.ref f19))) (l19 : K.lookup f19 = some ⟨oc19, od19, .func (PySem.W.fnOf "bits_of" "bits_of" (defArgs (top 19)) (defBody (top 19)) (defScope (top 19)) .none kV19 dc19 pm19 an19 cd19 ct19), sl19⟩) (c19 : PySem.W.codeIn K cd19 "bits_of" = true) (k19 : PySem.W.keepIn K (.ref f19) = true)
    (a20 : PySem.W.nsIn K mainGlobals "spots_of" = some (some (.ref f20))) (l20 : K.lookup f20 = some ⟨oc20, od20, .func (PySem.W.fnOf "spots_of" "spots_of" (defArgs (top 20)) (defBody (top 20)) (defScope (top 20)) .none kV20 dc20 pm20 an20 cd20 ct20), sl20⟩) (c20 : PySem.W.codeIn K cd20 "spots_of" = true) (k20 : PySem.W.keepIn K (.ref f20) = true)
    (a21 : PySem.W.nsIn K mainGlobals "told_lot" = some (some (.ref f21))) (l21 : K.lookup f21 = some ⟨oc21, od21, .func (PySem.W.fnOf "told_lot" "told_lot" (defArgs (top 21)) (defBody (top 21)) (defScope (top 21)) .none kV21 dc21 pm21 an21 cd21 ct21), sl21⟩) (c21 : PySem.W.codeIn K cd21 "told_lot" = true) (k21 : PySem.W.keepIn K (.ref f21) = true)
    (a24 : PySem.W.nsIn K mainGlobals "is_kind" = some (some (.ref f24))) (l24 : K.lookup f24 = some ⟨oc24, od24, .func (PySem.W.fnOf "is_kind" "is_kind" (defArgs (top 24)) (defBody (top 24)) (defScope (top 24)) .none kV24 dc24 pm24 an24 cd24 ct24), sl24⟩) (c24 : PySem.W.codeIn K cd24 "is_kind" = true) (k24 : PySem.W.keepIn K (.ref f24) = true)
    (a25 : PySem.W.nsIn K mainGlobals "are_kinds" = some (some (.ref f25))) (l25 : K.lookup f25 = some ⟨oc25, od25, .func (PySem.W.fnOf "are_kinds" "are_kinds" (defArgs (top 25)) (defBody (top 25)) (defScope (top 25)) .none kV25 dc25 pm25 an25 cd25 ct25), sl25⟩) (c25 : PySem.W.codeIn K cd25 "are_kinds" = true) (k25 : PySem.W.keepIn K (.ref f25) = true)
    (a26 : PySem.W.nsIn K mainGlobals "plain_kinds" = some (some (.ref f26))) (l26 : K.lookup f26 = some ⟨oc26, od26, .func (PySem.W.fnOf "plain_kinds" "plain_kinds" (defArgs (top 26)) (defBody (top 26)) (defScope (top 26)) .none kV26 dc26 pm26 an26 cd26 ct26), sl26⟩) (c26 : PySem.W.codeIn K cd26 "plain_kinds" = true) (k26 : PySem.W.keepIn K (.ref f26) = true)
    (a28 : PySem.W.nsIn K mainGlobals "want_store" = some (some (.ref f28))) (l28 : K.lookup f28 = some ⟨oc28, od28, .func (PySem.W.fnOf "want_store" "want_store" (defArgs (top 28)) (defBody (top 28)) (defScope (top 28)) .none kV28 dc28 pm28 an28 cd28 ct28), sl28⟩) (c28 : PySem.W.codeIn K cd28 "want_store" = true) (k28 : PySem.W.keepIn K (.ref f28) = true)
    (a29 : PySem.W.nsIn K mainGlobals "want_lot_of" = some (some (.ref f29))) (l29 : K.lookup f29 = some ⟨oc29, od29, .func (PySem.W.fnOf "want_lot_of" "want_lot_of" (defArgs (top 29)) (defBody (top 29)) (defScope (top 29)) .none kV29 dc29 pm29 an29 cd29 ct29), sl29⟩) (c29 : PySem.W.codeIn K cd29 "want_lot_of" = true) (k29 : PySem.W.keepIn K (.ref f29) = true)
    (a31 : PySem.W.nsIn K mainGlobals "step_behind" = some (some (.ref f31))) (l31 : K.lookup f31 = some ⟨oc31, od31, .func (PySem.W.fnOf "step_behind" "step_behind" (defArgs (top 31)) (defBody (top 31)) (defScope (top 31)) .none kV31 dc31 pm31 an31 cd31 ct31), sl31⟩) (c31 : PySem.W.codeIn K cd31 "step_behind" = true) (k31 : PySem.W.keepIn K (.ref f31) = true)
    (a32 : PySem.W.nsIn K mainGlobals "row_to" = some (some (.ref f32))) (l32 : K.lookup f32 = some ⟨oc32, od32, .func (PySem.W.fnOf "row_to" "row_to" (defArgs (top 32)) (defBody (top 32)) (defScope (top 32)) .none kV32 dc32 pm32 an32 cd32 ct32), sl32⟩) (c32 : PySem.W.codeIn K cd32 "row_to" = true) (k32 : PySem.W.keepIn K (.ref f32) = true)
    (a35 : PySem.W.nsIn K mainGlobals "led_on" = some (some (.ref f35))) (l35 : K.lookup f35 = some ⟨oc35, od35, .func (PySem.W.fnOf "led_on" "led_on" (defArgs (top 35)) (defBody (top 35)) (defScope (top 35)) .none kV35 dc35 pm35 an35 cd35 ct35), sl35⟩) (c35 : PySem.W.codeIn K cd35 "led_on" = true) (k35 : PySem.W.keepIn K (.ref f35) = true)
    (a36 : PySem.W.nsIn K mainGlobals "closed_from" = some (some (.ref f36))) (l36 : K.lookup f36 = some ⟨oc36, od36, .func (PySem.W.fnOf "closed_from" "closed_from" (defArgs (top 36)) (defBody (top 36)) (defScope (top 36)) .none kV36 dc36 pm36 an36 cd36 ct36), sl36⟩) (c36 : PySem.W.codeIn K cd36 "closed_from" = true) (k36 : PySem.W.keepIn K (.ref f36) = true)
    (a37 : PySem.W.nsIn K mainGlobals "told_lots" = some (some (.ref f37))) (l37 : K.lookup f37 = some ⟨oc37, od37, .func (PySem.W.fnOf "told_lots" "told_lots" (defArgs (top 37)) (defBody (top 37)) (defScope (top 37)) .none kV37 dc37 pm37 an37 cd37 ct37), sl37⟩) (c37 : PySem.W.codeIn K cd37 "told_lots" = true) (k37 : PySem.W.keepIn K (.ref f37) = true)
    (a38 : PySem.W.nsIn K mainGlobals "flat_bits" = some (some (.ref f38))) (l38 : K.lookup f38 = some ⟨oc38, od38, .func (PySem.W.fnOf "flat_bits" "flat_bits" (defArgs (top 38)) (defBody (top 38)) (defScope (top 38)) .none kV38 dc38 pm38 an38 cd38 ct38), sl38⟩) (c38 : PySem.W.codeIn K cd38 "flat_bits" = true) (k38 : PySem.W.keepIn K (.ref f38) = true)
    (a39 : PySem.W.nsIn K mainGlobals "flats_of" = some (some (.ref f39))) (l39 : K.lookup f39 = some ⟨oc39, od39, .func (PySem.W.fnOf "flats_of" "flats_of" (defArgs (top 39)) (defBody (top 39)) (defScope (top 39)) .none kV39 dc39 pm39 an39 cd39 ct39), sl39⟩) (c39 : PySem.W.codeIn K cd39 "flats_of" = true) (k39 : PySem.W.keepIn K (.ref f39) = true)
    (a40 : PySem.W.nsIn K mainGlobals "are_lots" = some (some (.ref f40))) (l40 : K.lookup f40 = some ⟨oc40, od40, .func (PySem.W.fnOf "are_lots" "are_lots" (defArgs (top 40)) (defBody (top 40)) (defScope (top 40)) .none kV40 dc40 pm40 an40 cd40 ct40), sl40⟩) (c40 : PySem.W.codeIn K cd40 "are_lots" = true) (k40 : PySem.W.keepIn K (.ref f40) = true)
    (a41 : PySem.W.nsIn K mainGlobals "is_closed_of" = some (some (.ref f41))) (l41 : K.lookup f41 = some ⟨oc41, od41, .func (PySem.W.fnOf "is_closed_of" "is_closed_of" (defArgs (top 41)) (defBody (top 41)) (defScope (top 41)) .none kV41 dc41 pm41 an41 cd41 ct41), sl41⟩) (c41 : PySem.W.codeIn K cd41 "is_closed_of" = true) (k41 : PySem.W.keepIn K (.ref f41) = true)
    (a42 : PySem.W.nsIn K mainGlobals "flat_lots" = some (some (.ref f42))) (l42 : K.lookup f42 = some ⟨oc42, od42, .func (PySem.W.fnOf "flat_lots" "flat_lots" (defArgs (top 42)) (defBody (top 42)) (defScope (top 42)) .none kV42 dc42 pm42 an42 cd42 ct42), sl42⟩) (c42 : PySem.W.codeIn K cd42 "flat_lots" = true) (k42 : PySem.W.keepIn K (.ref f42) = true)
    (a43 : PySem.W.nsIn K mainGlobals "is_flat" = some (some (.ref f43))) (l43 : K.lookup f43 = some ⟨oc43, od43, .func (PySem.W.fnOf "is_flat" "is_flat" (defArgs (top 43)) (defBody (top 43)) (defScope (top 43)) .none kV43 dc43 pm43 an43 cd43 ct43), sl43⟩) (c43 : PySem.W.codeIn K cd43 "is_flat" = true) (k43 : PySem.W.keepIn K (.ref f43) = true)
    (a44 : PySem.W.nsIn K mainGlobals "closure" = some (some (.ref f44))) (l44 : K.lookup f44 = some ⟨oc44, od44, .func (PySem.W.fnOf "closure" "closure" (defArgs (top 44)) (defBody (top 44)) (defScope (top 44)) .none kV44 dc44 pm44 an44 cd44 ct44), sl44⟩) (c44 : PySem.W.codeIn K cd44 "closure" = true) (k44 : PySem.W.keepIn K (.ref f44) = true)
    (a45 : PySem.W.nsIn K mainGlobals "is_closed" = some (some (.ref f45))) (l45 : K.lookup f45 = some ⟨oc45, od45, .func (PySem.W.fnOf "is_closed" "is_closed" (defArgs (top 45)) (defBody (top 45)) (defScope (top 45)) .none kV45 dc45 pm45 an45 cd45 ct45), sl45⟩) (c45 : PySem.W.codeIn K cd45 "is_closed" = true) (k45 : PySem.W.keepIn K (.ref f45) = true)
    (a47 : PySem.W.nsIn K mainGlobals "_law_pot" = some (some (.ref f47))) (l47 : K.lookup f47 = some ⟨oc47, od47, .func (PySem.W.fnOf "_law_pot" "_law_pot" (defArgs (top 47)) (defBody (top 47)) (defScope (top 47)) .none kV47 dc47 pm47 an47 cd47 ct47), sl47⟩) (c47 : PySem.W.codeIn K cd47 "_law_pot" = true) (k47 : PySem.W.keepIn K (.ref f47) = true)
    (a48 : PySem.W.nsIn K mainGlobals "_law_draw" = some (some (.ref f48))) (l48 : K.lookup f48 = some ⟨oc48, od48, .func (PySem.W.fnOf "_law_draw" "_law_draw" (defArgs (top 48)) (defBody (top 48)) (defScope (top 48)) .none kV48 dc48 pm48 an48 cd48 ct48), sl48⟩) (c48 : PySem.W.codeIn K cd48 "_law_draw" = true) (k48 : PySem.W.keepIn K (.ref f48) = true)
    (a49 : PySem.W.nsIn K mainGlobals "_law_kind" = some (some (.ref f49))) (l49 : K.lookup f49 = some ⟨oc49, od49, .func (PySem.W.fnOf "_law_kind" "_law_kind" (defArgs (top 49)) (defBody (top 49)) (defScope (top 49)) .none kV49 dc49 pm49 an49 cd49 ct49), sl49⟩) (c49 : PySem.W.codeIn K cd49 "_law_kind" = true) (k49 : PySem.W.keepIn K (.ref f49) = true)
    (a50 : PySem.W.nsIn K mainGlobals "_law_kinds" = some (some (.ref f50))) (l50 : K.lookup f50 = some ⟨oc50, od50, .func (PySem.W.fnOf "_law_kinds" "_law_kinds" (defArgs (top 50)) (defBody (top 50)) (defScope (top 50)) .none kV50 dc50 pm50 an50 cd50 ct50), sl50⟩) (c50 : PySem.W.codeIn K cd50 "_law_kinds" = true) (k50 : PySem.W.keepIn K (.ref f50) = true)
    (a51 : PySem.W.nsIn K mainGlobals "_law_parts" = some (some (.ref f51))) (l51 : K.lookup f51 = some ⟨oc51, od51, .func (PySem.W.fnOf "_law_parts" "_law_parts" (defArgs (top 51)) (defBody (top 51)) (defScope (top 51)) .none kV51 dc51 pm51 an51 cd51 ct51), sl51⟩) (c51 : PySem.W.codeIn K cd51 "_law_parts" = true) (k51 : PySem.W.keepIn K (.ref f51) = true)
    (a52 : PySem.W.nsIn K mainGlobals "_law_laid" = some (some (.ref f52))) (l52 : K.lookup f52 = some ⟨oc52, od52, .func (PySem.W.fnOf "_law_laid" "_law_laid" (defArgs (top 52)) (defBody (top 52)) (defScope (top 52)) .none kV52 dc52 pm52 an52 cd52 ct52), sl52⟩) (c52 : PySem.W.codeIn K cd52 "_law_laid" = true) (k52 : PySem.W.keepIn K (.ref f52) = true)
    (a53 : PySem.W.nsIn K mainGlobals "_law_off" = some (some (.ref f53))) (l53 : K.lookup f53 = some ⟨oc53, od53, .func (PySem.W.fnOf "_law_off" "_law_off" (defArgs (top 53)) (defBody (top 53)) (defScope (top 53)) .none kV53 dc53 pm53 an53 cd53 ct53), sl53⟩) (c53 : PySem.W.codeIn K cd53 "_law_off" = true) (k53 : PySem.W.keepIn K (.ref f53) = true)
    (a54 : PySem.W.nsIn K mainGlobals "_law_closed" = some (some (.ref f54))) (l54 : K.lookup f54 = some ⟨oc54, od54, .func (PySem.W.fnOf "_law_closed" "_law_closed" (defArgs (top 54)) (defBody (top 54)) (defScope (top 54)) .none kV54 dc54 pm54 an54 cd54 ct54), sl54⟩) (c54 : PySem.W.codeIn K cd54 "_law_closed" = true) (k54 : PySem.W.keepIn K (.ref f54) = true)
    (a55 : PySem.W.nsIn K mainGlobals "_law_all_lots" = some (some (.ref f55))) (l55 : K.lookup f55 = some ⟨oc55, od55, .func (PySem.W.fnOf "_law_all_lots" "_law_all_lots" (defArgs (top 55)) (defBody (top 55)) (defScope (top 55)) .none kV55 dc55 pm55 an55 cd55 ct55), sl55⟩) (c55 : PySem.W.codeIn K cd55 "_law_all_lots" = true) (k55 : PySem.W.keepIn K (.ref f55) = true)
    (a56 : PySem.W.nsIn K mainGlobals "_law_right" = some (some (.ref f56))) (l56 : K.lookup f56 = some ⟨oc56, od56, .func (PySem.W.fnOf "_law_right" "_law_right" (defArgs (top 56)) (defBody (top 56)) (defScope (top 56)) .none kV56 dc56 pm56 an56 cd56 ct56), sl56⟩) (c56 : PySem.W.codeIn K cd56 "_law_right" = true) (k56 : PySem.W.keepIn K (.ref f56) = true)
    (a57 : PySem.W.nsIn K mainGlobals "law" = some (some (.ref f57))) (l57 : K.lookup f57 = some ⟨oc57, od57, .func (PySem.W.fnOf "law" "law" (defArgs (top 57)) (defBody (top 57)) (defScope (top 57)) .none kV57 dc57 pm57 an57 cd57 ct57), sl57⟩) (c57 : PySem.W.codeIn K cd57 "law" = true) (k57 : PySem.W.keepIn K (.ref f57) = true)
    : ∃ fd : FuncData, (∀ (s : Shared) (v : Value), BindsTo s fd ⟨[v], []⟩ [("_law_script", v)]) ∧ ∀ base : Heap, K.In base → base.Ns mainGlobals mg → FnG l.prog w K mg base 9 fa fd ["_law_script"] (spLaw K) := by
  have T : Txt mg := ⟨PySem.W.mg_none_of X G z_isinstance, PySem.W.mg_none_of X G z_int, PySem.W.mg_none_of X G z_bool, PySem.W.mg_none_of X G z_list, PySem.W.mg_none_of X G z_tuple, PySem.W.mg_none_of X G z_all, PySem.W.mg_none_of X G z_len, PySem.W.mg_none_of X G z_sorted, PySem.W.mg_none_of X G z_set, PySem.W.mg_none_of X G z_range, PySem.W.mg_none_of X G z_enumerate, PySem.W.mg_none_of X G z_sum, PySem.W.mg_none_of X G z_abs, PySem.W.mg_none_of X G z_max, PySem.W.mg_none_of X G z_divmod, PySem.W.mg_none_of X G z_repr, ⟨_, PySem.W.mg_of X G y_least, r_least⟩, ⟨_, PySem.W.mg_of X G y_shelves, r_shelves⟩, ⟨_, PySem.W.mg_of X G y_kinds, r_kinds⟩, ⟨_, PySem.W.mg_of X G y_lots, r_lots⟩⟩
  have t : StTxt K mg C := ⟨PySem.W.mg_of X G aC, ⟨⟨pg, hd, po, sa⟩, ca, cn, ctk, cm, if_pos (beq_self_eq_true _)⟩, nh, nd, ns, nk⟩
  have F0 := fun_mk (st := sInit) l0 c0 k0
  have b0 := F0.binds (ps := ["self", "shelves", "deliveries", "sales"]) fun _ _ _ _ _ _ us hl => match us, hl with | [_, _, _, _], _ => rfl
  have d : Defs K mg C := ⟨T, t, ⟨f0, _, F0, ⟨mk, i0, n0, kc⟩, b0⟩,
    isAt_mk (i := 9) X G a9 l9 c9 k9 fun _ _ _ _ _ _ us hl => match us, hl with | [_], _ => rfl,
    isAt_mk (i := 10) X G a10 l10 c10 k10 fun _ _ _ _ _ _ us hl => match us, hl with | [_], _ => rfl,
    isAt_mk (i := 11) X G a11 l11 c11 k11 fun _ _ _ _ _ _ us hl => match us, hl with | [_], _ => rfl,
    isAt_mk (i := 15) X G a15 l15 c15 k15 fun _ _ _ _ _ _ us hl => match us, hl with | [_], _ => rfl,
    isAt_mk (i := 16) X G a16 l16 c16 k16 fun _ _ _ _ _ _ us hl => match us, hl with | [_], _ => rfl,
    isAt_mk (i := 17) X G a17 l17 c17 k17 fun _ _ _ _ _ _ us hl => match us, hl with | [_, _], _ => rfl,
    isAt_mk (i := 18) X G a18 l18 c18 k18 fun _ _ _ _ _ _ us hl => match us, hl with | [_, _], _ => rfl,
    isAt_mk (i := 19) X G a19 l19 c19 k19 fun _ _ _ _ _ _ us hl => match us, hl with | [_], _ => rfl,
    isAt_mk (i := 20) X G a20 l20 c20 k20 fun _ _ _ _ _ _ us hl => match us, hl with | [_], _ => rfl,
    isAt_mk (i := 21) X G a21 l21 c21 k21 fun _ _ _ _ _ _ us hl => match us, hl with | [_], _ => rfl,
    isAt_mk (i := 24) X G a24 l24 c24 k24 fun _ _ _ _ _ _ us hl => match us, hl with | [_, _], _ => rfl,
    isAt_mk (i := 25) X G a25 l25 c25 k25 fun _ _ _ _ _ _ us hl => match us, hl with | [_, _], _ => rfl,
    isAt_mk (i := 26) X G a26 l26 c26 k26 fun _ _ _ _ _ _ us hl => match us, hl with | [_], _ => rfl,
    isAt_mk (i := 28) X G a28 l28 c28 k28 fun _ _ _ _ _ _ us hl => match us, hl with | [_], _ => rfl,
    isAt_mk (i := 29) X G a29 l29 c29 k29 fun _ _ _ _ _ _ us hl => match us, hl with | [_, _], _ => rfl,
    isAt_mk (i := 31) X G a31 l31 c31 k31 fun _ _ _ _ _ _ us hl => match us, hl with | [_, _, _], _ => rfl,
    isAt_mk (i := 32) X G a32 l32 c32 k32 fun _ _ _ _ _ _ us hl => match us, hl with | [_, _], _ => rfl,
    isAt_mk (i := 35) X G a35 l35 c35 k35 fun _ _ _ _ _ _ us hl => match us, hl with | [_, _], _ => rfl,
    isAt_mk (i := 36) X G a36 l36 c36 k36 fun _ _ _ _ _ _ us hl => match us, hl with | [_, _], _ => rfl,
    isAt_mk (i := 37) X G a37 l37 c37 k37 fun _ _ _ _ _ _ us hl => match us, hl with | [_], _ => rfl,
    isAt_mk (i := 38) X G a38 l38 c38 k38 fun _ _ _ _ _ _ us hl => match us, hl with | [_], _ => rfl,
    isAt_mk (i := 39) X G a39 l39 c39 k39 fun _ _ _ _ _ _ us hl => match us, hl with | [_], _ => rfl,
    isAt_mk (i := 40) X G a40 l40 c40 k40 fun _ _ _ _ _ _ us hl => match us, hl with | [_, _], _ => rfl,
    isAt_mk (i := 41) X G a41 l41 c41 k41 fun _ _ _ _ _ _ us hl => match us, hl with | [_, _], _ => rfl,
    isAt_mk (i := 42) X G a42 l42 c42 k42 fun _ _ _ _ _ _ us hl => match us, hl with | [_], _ => rfl,
    isAt_mk (i := 43) X G a43 l43 c43 k43 fun _ _ _ _ _ _ us hl => match us, hl with | [_, _], _ => rfl,
    isAt_mk (i := 44) X G a44 l44 c44 k44 fun _ _ _ _ _ _ us hl => match us, hl with | [_, _], _ => rfl,
    isAt_mk (i := 45) X G a45 l45 c45 k45 fun _ _ _ _ _ _ us hl => match us, hl with | [_, _], _ => rfl,
    isAt_mk (i := 47) X G a47 l47 c47 k47 fun _ _ _ _ _ _ us hl => match us, hl with | [_, _], _ => rfl,
    isAt_mk (i := 48) X G a48 l48 c48 k48 fun _ _ _ _ _ _ us hl => match us, hl with | [_, _], _ => rfl,
    isAt_mk (i := 49) X G a49 l49 c49 k49 fun _ _ _ _ _ _ us hl => match us, hl with | [_, _], _ => rfl,
    isAt_mk (i := 50) X G a50 l50 c50 k50 fun _ _ _ _ _ _ us hl => match us, hl with | [_, _, _], _ => rfl,
    isAt_mk (i := 51) X G a51 l51 c51 k51 fun _ _ _ _ _ _ us hl => match us, hl with | [_, _], _ => rfl,
    isAt_mk (i := 52) X G a52 l52 c52 k52 fun _ _ _ _ _ _ us hl => match us, hl with | [_, _], _ => rfl,
    isAt_mk (i := 53) X G a53 l53 c53 k53 fun _ _ _ _ _ _ us hl => match us, hl with | [_, _], _ => rfl,
    isAt_mk (i := 54) X G a54 l54 c54 k54 fun _ _ _ _ _ _ us hl => match us, hl with | [_, _, _], _ => rfl,
    isAt_mk (i := 55) X G a55 l55 c55 k55 fun _ _ _ _ _ _ us hl => match us, hl with | [_], _ => rfl,
    isAt_mk (i := 56) X G a56 l56 c56 k56 fun _ _ _ _ _ _ us hl => match us, hl with | [_], _ => rfl,
    isAt_mk (i := 57) X G a57 l57 c57 k57 fun _ _ _ _ _ _ us hl => match us, hl with | [_], _ => rfl⟩
  have e := hfa.symm.trans (PySem.W.mg_of X G a57)
  cases e
  have F57 := fun_mk (st := top 57) l57 c57 k57
  refine ⟨PySem.W.fnOf "law" "law" (defArgs (top 57)) (defBody (top 57)) (defScope (top 57)) .none kV57 dc57 pm57 an57 cd57 ct57, fun s v => .of_eq rfl, fun base _ _ => ?_⟩
  · obtain ⟨f, fd, a, F⟩ := ok_all (P := l.prog) (w := w) (base := base) d
    have e1 := hfa.symm.trans a.g
    cases e1
    obtain ⟨oc, od, kV, doc, pm, an, cdv, ct, osl, e2, lk, _⟩ := a.F.ex
    have e3 := lk.symm.trans l57
    cases e3
    exact F
theorem walk {l : PySem.W.OpenLaw} {q : Program} {loose : List Str} {XP : (Str → Option Value) → Heap → Prop} {YP : World → Heap → Prop} {d : PySem.DefRec} {K : Params → PySem.W.Frag} (hn : l.most = some 63) (hdf : d.params.defaults = [])
    (hY : ∀ (w : World) (h : Heap), YP w h → (K w.params).In h)
    (F : ∀ (w : World) (mg : Str → Option Value) (fa : Addr) (h : Heap), (K w.params).In h → h.Ns mainGlobals mg → mg d.name = some (.ref fa) →
      ∃ fd : FuncData, (∀ (s : Shared) (u : Value), BindsTo s fd ⟨[u], []⟩ [("_law_script", u)]) ∧ ∀ base : Heap, (K w.params).In base → base.Ns mainGlobals mg → FnG l.prog w (K w.params) mg base 9 fa fd ["_law_script"] (spLaw (K w.params))) :
    PySem.W.WalkO q loose XP YP l.row.toRowW d [] (fun f vs => PySem.call f vs) :=
  walk_ofG (n := 63) (k := 9) (x := "_law_script") (sp := fun w => spLaw (K w.params)) hn (by decide) hdf ⟨rfl, by decide, by decide⟩ hY F fun _ _ a ns _ hS => ⟨a, ns, rfl, hS, fun _ => rfl⟩
end K22
open PySem PySem.W PyProof.Rows
set_option maxRecDepth 100000 in
set_option maxHeartbeats 0 in
theorem PySem.Challenge.cw_twoabove_k22_whole_flat_lots_holds : PySem.Challenge.rw_twoabove_k22_whole_flat_lots.Holds := by
  w_on; o_law; k_head; (case hw => w_witness2)
  k_fill
  refine K22.walk (l := PySem.Challenge.rw_twoabove_k22_whole_flat_lots) rfl rfl (fun w h Y => PySem.W.kIn_of Y) ?F
  case F =>
    intro w mg fa h KX G hmg
    refine' K22.all_mk KX G hmg ?aC ?i0 ?n0 ?l0 ?c0 ?k0 ?pg ?hd ?po ?sa ?mk ?kc ?ca ?cn ?ctk ?cm ?nh ?nd ?ns ?nk ?z_isinstance ?z_int ?z_bool ?z_list ?z_tuple ?z_all ?z_len ?z_sorted ?z_set ?z_range ?z_enumerate ?z_sum ?z_abs ?z_max ?z_divmod ?z_repr ?y_least ?r_least ?y_shelves ?r_shelves ?y_kinds ?r_kinds ?y_lots ?r_lots ?a9 ?l9 ?c9 ?k9 ?a10 ?l10 ?c10 ?k10 ?a11 ?l11 ?c11 ?k11 ?a15 ?l15 ?c15 ?k15 ?a16 ?l16 ?c16 ?k16 ?a17 ?l17 ?c17 ?k17 ?a18 ?l18 ?c18 ?k18 ?a19 ?l19 ?c19 ?k19 ?a20 ?l20 ?c20 ?k20 ?a21 ?l21 ?c21 ?k21 ?a24 ?l24 ?c24 ?k24 ?a25 ?l25 ?c25 ?k25 ?a26 ?l26 ?c26 ?k26 ?a28 ?l28 ?c28 ?k28 ?a29 ?l29 ?c29 ?k29 ?a31 ?l31 ?c31 ?k31 ?a32 ?l32 ?c32 ?k32 ?a35 ?l35 ?c35 ?k35 ?a36 ?l36 ?c36 ?k36 ?a37 ?l37 ?c37 ?k37 ?a38 ?l38 ?c38 ?k38 ?a39 ?l39 ?c39 ?k39 ?a40 ?l40 ?c40 ?k40 ?a41 ?l41 ?c41 ?k41 ?a42 ?l42 ?c42 ?k42 ?a43 ?l43 ?c43 ?k43 ?a44 ?l44 ?c44 ?k44 ?a45 ?l45 ?c45 ?k45 ?a47 ?l47 ?c47 ?k47 ?a48 ?l48 ?c48 ?k48 ?a49 ?l49 ?c49 ?k49 ?a50 ?l50 ?c50 ?k50 ?a51 ?l51 ?c51 ?k51 ?a52 ?l52 ?c52 ?k52 ?a53 ?l53 ?c53 ?k53 ?a54 ?l54 ?c54 ?k54 ?a55 ?l55 ?c55 ?k55 ?a56 ?l56 ?c56 ?k56 ?a57 ?l57 ?c57 ?k57
    (case aC => k_is)
    (case i0 => k_is)
    (case n0 => k_is)
    (case l0 => k_is)
    (case c0 => k_is)
    (case k0 => k_is)
    (case pg => k_is)
    (case hd => k_is)
    (case po => k_is)
    (case sa => k_is)
    (case mk => k_is)
    (case kc => k_is)
    (case ca => k_is)
    (case cn => k_is)
    (case ctk => k_is)
    (case cm => k_is)
    (case nh => k_is)
    (case nd => k_is)
    (case ns => k_is)
    (case nk => k_is)
    (case z_isinstance => k_is)
    (case z_int => k_is)
    (case z_bool => k_is)
    (case z_list => k_is)
    (case z_tuple => k_is)
    (case z_all => k_is)
    (case z_len => k_is)
    (case z_sorted => k_is)
    (case z_set => k_is)
    (case z_range => k_is)
    (case z_enumerate => k_is)
    (case z_sum => k_is)
    (case z_abs => k_is)
    (case z_max => k_is)
    (case z_divmod => k_is)
    (case z_repr => k_is)
    (case y_least => k_is)
    (case r_least => exact ⟨_, rfl⟩)
    (case y_shelves => k_is)
    (case r_shelves => exact ⟨_, rfl⟩)
    (case y_kinds => k_is)
    (case r_kinds => exact ⟨_, rfl⟩)
    (case y_lots => k_is)
    (case r_lots => exact ⟨_, rfl⟩)
    (case a9 => k_is)
    (case l9 => k_is)
    (case c9 => k_is)
    (case k9 => k_is)
    (case a10 => k_is)
    (case l10 => k_is)
    (case c10 => k_is)
    (case k10 => k_is)
    (case a11 => k_is)
    (case l11 => k_is)
    (case c11 => k_is)
    (case k11 => k_is)
    (case a15 => k_is)
    (case l15 => k_is)
    (case c15 => k_is)
    (case k15 => k_is)
    (case a16 => k_is)
    (case l16 => k_is)
    (case c16 => k_is)
    (case k16 => k_is)
    (case a17 => k_is)
    (case l17 => k_is)
    (case c17 => k_is)
    (case k17 => k_is)
    (case a18 => k_is)
    (case l18 => k_is)
    (case c18 => k_is)
    (case k18 => k_is)
    (case a19 => k_is)
    (case l19 => k_is)
    (case c19 => k_is)
    (case k19 => k_is)
    (case a20 => k_is)
    (case l20 => k_is)
    (case c20 => k_is)
    (case k20 => k_is)
    (case a21 => k_is)
    (case l21 => k_is)
    (case c21 => k_is)
    (case k21 => k_is)
    (case a24 => k_is)
    (case l24 => k_is)
    (case c24 => k_is)
    (case k24 => k_is)
    (case a25 => k_is)
    (case l25 => k_is)
    (case c25 => k_is)
    (case k25 => k_is)
    (case a26 => k_is)
    (case l26 => k_is)
    (case c26 => k_is)
    (case k26 => k_is)
    (case a28 => k_is)
    (case l28 => k_is)
    (case c28 => k_is)
    (case k28 => k_is)
    (case a29 => k_is)
    (case l29 => k_is)
    (case c29 => k_is)
    (case k29 => k_is)
    (case a31 => k_is)
    (case l31 => k_is)
    (case c31 => k_is)
    (case k31 => k_is)
    (case a32 => k_is)
    (case l32 => k_is)
    (case c32 => k_is)
    (case k32 => k_is)
    (case a35 => k_is)
    (case l35 => k_is)
    (case c35 => k_is)
    (case k35 => k_is)
    (case a36 => k_is)
    (case l36 => k_is)
    (case c36 => k_is)
    (case k36 => k_is)
    (case a37 => k_is)
    (case l37 => k_is)
    (case c37 => k_is)
    (case k37 => k_is)
    (case a38 => k_is)
    (case l38 => k_is)
    (case c38 => k_is)
    (case k38 => k_is)
    (case a39 => k_is)
    (case l39 => k_is)
    (case c39 => k_is)
    (case k39 => k_is)
    (case a40 => k_is)
    (case l40 => k_is)
    (case c40 => k_is)
    (case k40 => k_is)
    (case a41 => k_is)
    (case l41 => k_is)
    (case c41 => k_is)
    (case k41 => k_is)
    (case a42 => k_is)
    (case l42 => k_is)
    (case c42 => k_is)
    (case k42 => k_is)
    (case a43 => k_is)
    (case l43 => k_is)
    (case c43 => k_is)
    (case k43 => k_is)
    (case a44 => k_is)
    (case l44 => k_is)
    (case c44 => k_is)
    (case k44 => k_is)
    (case a45 => k_is)
    (case l45 => k_is)
    (case c45 => k_is)
    (case k45 => k_is)
    (case a47 => k_is)
    (case l47 => k_is)
    (case c47 => k_is)
    (case k47 => k_is)
    (case a48 => k_is)
    (case l48 => k_is)
    (case c48 => k_is)
    (case k48 => k_is)
    (case a49 => k_is)
    (case l49 => k_is)
    (case c49 => k_is)
    (case k49 => k_is)
    (case a50 => k_is)
    (case l50 => k_is)
    (case c50 => k_is)
    (case k50 => k_is)
    (case a51 => k_is)
    (case l51 => k_is)
    (case c51 => k_is)
    (case k51 => k_is)
    (case a52 => k_is)
    (case l52 => k_is)
    (case c52 => k_is)
    (case k52 => k_is)
    (case a53 => k_is)
    (case l53 => k_is)
    (case c53 => k_is)
    (case k53 => k_is)
    (case a54 => k_is)
    (case l54 => k_is)
    (case c54 => k_is)
    (case k54 => k_is)
    (case a55 => k_is)
    (case l55 => k_is)
    (case c55 => k_is)
    (case k55 => k_is)
    (case a56 => k_is)
    (case l56 => k_is)
    (case c56 => k_is)
    (case k56 => k_is)
    (case a57 => k_is)
    (case l57 => k_is)
    (case c57 => k_is)
    (case k57 => k_is)
