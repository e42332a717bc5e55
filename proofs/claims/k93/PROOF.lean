import PyProof.Rows.All
import Wide.All
import OpenK.AllK
import Wide.FinOn
import HandS.ForMost
import HandS.More
import HandS.Conv
import HandS.Property
import HandS.ClsMeth
import HandS.Star
import HandS.MethStar
import HandS.SortInts
import HandS.SortKw
import HandS.TupAny
import HandS.TupMul
import HandS.IsInst
import HandS.Wide
import HandS.WideBits
import HandS.DictComp
import HandS.NoneIn
import HandS.OwnEq
import HandS.Flow
import HandS.Style
import HandS.Zip
import HandS.Small
import KE.KWithOwn
import KE.DatumOrd
import KE.KDictCopyH
import PyProof.Rows.MatchSeqLen
import KE.GoesEnum
import HandS.Walk
import PyProof.RulesMatchSeq
import KE.GoesEnumKw
import KE.KDictLaw
import KE.KTupTabMore
import HandS.Defaults
import PySem.Challenge.RW_movingup_k93_whole_offices_and_changes
import KE.KStateDown
import HandS.Head0
import HandS.Head1
import HandS.Head2
import HandS.HeadEnd
import HandS.HeadHook1
import HandS.HeadHook2
import HandS.HeadHook4
set_option Elab.async false
section
set_option autoImplicit false
set_option linter.all false
namespace MU
/-! The mathematics of arrangements, apart from the program. -/
abbrev Arr := Nat → Option Int
structure TreeOk (n : Nat) (par : Nat → Nat) : Prop where
  pos : 0 < n
  le : n ≤ 8
  lt : ∀ k, 0 < k → k < n → par k < k
inductive Above (par : Nat → Nat) (p : Nat) : Nat → Prop
  | refl : Above par p p
  | step {q : Nat} : 0 < q → Above par p (par q) → Above par p q
structure Valid (n : Nat) (par : Nat → Nat) (f : Arr) : Prop where
  out : ∀ k, n ≤ k → f k = none
  nn : ∀ k x, f k = some x → 0 ≤ x
  inj : ∀ i j x, f i = some x → f j = some x → i = j
  up : ∀ k x, 0 < k → f k = some x → ∃ y, f (par k) = some y ∧ y < x
def Ppl (f : Arr) (z : Int) : Prop := ∃ k, f k = some z
structure Lv (n : Nat) (par : Nat → Nat) (f : Arr) (x : Int) (g : Arr) : Prop where
  val : Valid n par g
  ppl : ∀ z, Ppl g z ↔ Ppl f z ∧ z ≠ x
  und : ∀ k z, g k = some z → ∃ q, f q = some z ∧ Above par k q
def fset (f : Arr) (k : Nat) (v : Option Int) : Arr := fun j => if j = k then v else f j
theorem fset_same (f : Arr) (k : Nat) (v : Option Int) : fset f k v k = v := by unfold fset; rw [if_pos rfl]
theorem fset_ne (f : Arr) {k j : Nat} (v : Option Int) (h : j ≠ k) : fset f k v j = f j := by unfold fset; rw [if_neg h]

section
variable {n : Nat} {par : Nat → Nat} {f g : Arr}
theorem Above.trans {p q r : Nat} (h : Above par p q) (h2 : Above par q r) : Above par p r := by
  induction h2 with
  | refl => exact h
  | step h0 _ ih => exact .step h0 ih
theorem Above.one {q : Nat} (h : 0 < q) : Above par (par q) q := .step h (.refl)
theorem Above.le (T : TreeOk n par) {p q : Nat} (h : Above par p q) (hq : q < n) : p ≤ q := by
  induction h with
  | refl => exact Nat.le_refl _
  | @step q h0 _ ih =>
    have := T.lt q h0 hq
    have := ih (by omega)
    omega
theorem Above.comp {p q r : Nat} (h : Above par p q) (h2 : Above par r q) : Above par p r ∨ Above par r p := by
  induction h with
  | refl => exact .inr h2
  | @step q h0 h1 ih =>
    cases h2 with
    | refl => exact .inl (.step h0 h1)
    | step _ h3 => exact ih h3
theorem Above.up {p q : Nat} (h : Above par p q) (hne : p ≠ q) : 0 < q ∧ Above par p (par q) := by
  cases h with
  | refl => exact absurd rfl hne
  | step a b => exact ⟨a, b⟩
theorem Above.zero {p : Nat} (T : TreeOk n par) (h : Above par p 0) : p = 0 := by
  have := h.le T T.pos
  omega
theorem Above.root (T : TreeOk n par) : ∀ p, p < n → Above par 0 p := fun p => by
  induction p using Nat.strongRecOn with
  | ind p ih =>
    intro hp
    by_cases h : p = 0
    · subst h; exact .refl
    · have hl := T.lt p (by omega) hp
      exact .step (by omega) (ih (par p) hl (by omega))
theorem Valid.lt (V : Valid n par f) {k : Nat} {x : Int} (h : f k = some x) : k < n := by
  rcases Nat.lt_or_ge k n with h1 | h1
  · exact h1
  · rw [V.out k h1] at h; cases h
theorem Valid.anc (V : Valid n par f) {p q : Nat} (h : Above par p q) : ∀ {x : Int}, f q = some x → ∃ y, f p = some y ∧ y ≤ x ∧ (p ≠ q → y < x) := by
  induction h with
  | refl => exact fun {x} e => ⟨x, e, Int.le_refl _, fun z => absurd rfl z⟩
  | @step q h0 h1 ih =>
    intro x e
    obtain ⟨y, e1, l1⟩ := V.up _ _ h0 e
    obtain ⟨z, e2, l2, _⟩ := ih e1
    exact ⟨z, e2, by omega, fun _ => by omega⟩
/-- one side of the uniqueness -/
theorem uniq_le (T : TreeOk n par) (fi : ∀ i j x, f i = some x → f j = some x → i = j) {S : Int → Prop} {g1 g2 : Arr} (V1 : Valid n par g1) (V2 : Valid n par g2)
    (P1 : ∀ z, Ppl g1 z → S z) (P2 : ∀ z, S z → Ppl g2 z)
    (U1 : ∀ k z, g1 k = some z → ∃ q, f q = some z ∧ Above par k q) (U2 : ∀ k z, g2 k = some z → ∃ q, f q = some z ∧ Above par k q)
    {p : Nat} (same : ∀ k, Above par k p → k ≠ p → g1 k = g2 k) {x : Int} (h : g1 p = some x) : ∃ y, g2 p = some y ∧ y ≤ x := by
  obtain ⟨k, hk⟩ := P2 x (P1 x ⟨p, h⟩)
  obtain ⟨q, e1, a1⟩ := U1 p x h
  obtain ⟨q', e2, a2⟩ := U2 k x hk
  have : q = q' := fi _ _ _ e1 e2
  subst this
  by_cases hkp : k = p
  · subst hkp; exact ⟨x, hk, Int.le_refl _⟩
  · rcases a1.comp a2 with c | c
    · obtain ⟨y, e, l, _⟩ := V2.anc c hk
      exact ⟨y, e, l⟩
    · have := same k c hkp
      rw [hk] at this
      exact absurd (V1.inj _ _ _ this h) hkp
theorem uniq (T : TreeOk n par) (fi : ∀ i j x, f i = some x → f j = some x → i = j) {S : Int → Prop} {g1 g2 : Arr} (V1 : Valid n par g1) (V2 : Valid n par g2)
    (P1 : ∀ z, Ppl g1 z ↔ S z) (P2 : ∀ z, Ppl g2 z ↔ S z)
    (U1 : ∀ k z, g1 k = some z → ∃ q, f q = some z ∧ Above par k q) (U2 : ∀ k z, g2 k = some z → ∃ q, f q = some z ∧ Above par k q) : g1 = g2 := by
  have key : ∀ p, p < n → g1 p = g2 p := fun p => by
    induction p using Nat.strongRecOn with
    | ind p ih =>
      intro hp
      have same : ∀ k, Above par k p → k ≠ p → g1 k = g2 k := fun k a ne => by
        have := a.le T hp
        exact ih k (by omega) (by omega)
      cases h1 : g1 p with
      | some x =>
        obtain ⟨y, e, l⟩ := uniq_le T fi V1 V2 (fun z => (P1 z).mp) (fun z => (P2 z).mpr) U1 U2 same h1
        obtain ⟨x', e', l'⟩ := uniq_le T fi V2 V1 (fun z => (P2 z).mp) (fun z => (P1 z).mpr) U2 U1 (fun k a b => (same k a b).symm) e
        rw [h1] at e'
        have := Option.some.inj e'
        rw [e]
        exact congrArg some (by omega)
      | none =>
        cases h2 : g2 p with
        | none => rfl
        | some y =>
          obtain ⟨x', e', _⟩ := uniq_le T fi V2 V1 (fun z => (P2 z).mp) (fun z => (P1 z).mpr) U2 U1 (fun k a b => (same k a b).symm) h2
          rw [h1] at e'; cases e'
  funext p
  rcases Nat.lt_or_ge p n with h | h
  · exact key p h
  · rw [V1.out p h, V2.out p h]
theorem Lv.uniq (T : TreeOk n par) (V : Valid n par f) {x : Int} {g1 g2 : Arr} (a : Lv n par f x g1) (b : Lv n par f x g2) : g1 = g2 :=
  MU.uniq T V.inj a.val b.val a.ppl b.ppl a.und b.und
open Classical in
noncomputable def lv (n : Nat) (par : Nat → Nat) (f : Arr) (x : Int) : Arr := if h : ∃ g, Lv n par f x g then choose h else f
theorem lv_eq (T : TreeOk n par) (V : Valid n par f) {x : Int} (h : Lv n par f x g) : lv n par f x = g := by
  have e : ∃ g, Lv n par f x g := ⟨g, h⟩
  unfold lv
  rw [dif_pos e]
  exact Lv.uniq T V (Classical.choose_spec e) h

/-! ### paths -/
def pathF (par : Nat → Nat) : Nat → Nat → List Nat
  | 0, p => [p]
  | t + 1, p => if p = 0 then [0] else pathF par t (par p) ++ [p]
def pathTo (par : Nat → Nat) (p : Nat) : List Nat := pathF par p p
theorem pathF_le (T : TreeOk n par) : ∀ (t s p : Nat), p < n → p ≤ t → p ≤ s → pathF par t p = pathF par s p := fun t => by
  induction t with
  | zero =>
    intro s p hp h1 h2
    have : p = 0 := by omega
    subst this
    cases s with
    | zero => rfl
    | succ s => rfl
  | succ t ih =>
    intro s p hp h1 h2
    cases s with
    | zero =>
      have : p = 0 := by omega
      subst this; rfl
    | succ s =>
      by_cases h : p = 0
      · subst h; rfl
      · have hl := T.lt p (by omega) hp
        simp only [pathF, if_neg h]
        rw [ih s (par p) (by omega) (by omega) (by omega)]
theorem pathTo_zero : pathTo par 0 = [0] := rfl
theorem pathTo_succ (T : TreeOk n par) {p : Nat} (h : 0 < p) (hp : p < n) : pathTo par p = pathTo par (par p) ++ [p] := by
  have hl := T.lt p h hp
  unfold pathTo
  obtain ⟨t, rfl⟩ : ∃ t, p = t + 1 := ⟨p - 1, by omega⟩
  show (if t + 1 = 0 then [0] else pathF par t (par (t + 1)) ++ [t + 1]) = _
  rw [if_neg (by omega), pathF_le T t (par (t + 1)) (par (t + 1)) (by omega) (by omega) (Nat.le_refl _)]
theorem mem_pathTo (T : TreeOk n par) : ∀ (p : Nat), p < n → ∀ k, k ∈ pathTo par p ↔ Above par k p := fun p => by
  induction p using Nat.strongRecOn with
  | ind p ih =>
    intro hp k
    by_cases h : p = 0
    · subst h
      rw [pathTo_zero, List.mem_singleton]
      exact ⟨fun e => e ▸ .refl, fun a => a.zero T⟩
    · have h0 : 0 < p := by omega
      have hl := T.lt p h0 hp
      rw [pathTo_succ T h0 hp, List.mem_append, List.mem_singleton, ih _ hl (by omega)]
      constructor
      · rintro (a | rfl)
        · exact .step h0 a
        · exact .refl
      · intro a
        by_cases e : k = p
        · exact .inr e
        · exact .inl (a.up e).2
theorem pathTo_last (T : TreeOk n par) (p : Nat) (hp : p < n) : pathTo par p = (pathTo par p).dropLast ++ [p] := by
  by_cases h : p = 0
  · subst h; rfl
  · rw [pathTo_succ T (by omega) hp, List.dropLast_concat]
theorem pathTo_drop (T : TreeOk n par) {p : Nat} (h : 0 < p) (hp : p < n) : (pathTo par p).dropLast = pathTo par (par p) := by
  rw [pathTo_succ T h hp, List.dropLast_concat]
theorem mem_drop (T : TreeOk n par) {p : Nat} (hp : p < n) {k : Nat} : k ∈ (pathTo par p).dropLast ↔ Above par k p ∧ k ≠ p := by
  by_cases h : p = 0
  · subst h
    rw [pathTo_zero]
    simp only [List.dropLast_singleton, List.not_mem_nil, false_iff]
    rintro ⟨a, b⟩
    exact b (a.zero T)
  · have h0 : 0 < p := by omega
    have hl := T.lt p h0 hp
    rw [pathTo_drop T h0 hp, mem_pathTo T _ (by omega)]
    constructor
    · intro a
      have := a.le T (by omega)
      exact ⟨.step h0 a, by omega⟩
    · rintro ⟨a, b⟩
      exact (a.up b).2
theorem pathTo_pw (T : TreeOk n par) : ∀ (p : Nat), p < n → (pathTo par p).Pairwise (fun a b => Above par a b ∧ a ≠ b) := fun p => by
  induction p using Nat.strongRecOn with
  | ind p ih =>
    intro hp
    by_cases h : p = 0
    · subst h; rw [pathTo_zero]; exact List.pairwise_singleton _ _
    · have h0 : 0 < p := by omega
      have hl := T.lt p h0 hp
      rw [pathTo_succ T h0 hp, List.pairwise_append]
      refine ⟨ih _ hl (by omega), List.pairwise_singleton _ _, fun a ha b hb => ?_⟩
      rw [List.mem_singleton] at hb
      subst hb
      have a1 := (mem_pathTo T _ (by omega) a).mp ha
      have := a1.le T (by omega)
      exact ⟨.step h0 a1, by omega⟩
theorem pathTo_nodup (T : TreeOk n par) (p : Nat) (hp : p < n) : (pathTo par p).Nodup := (pathTo_pw T p hp).imp fun h => h.2

/-! ### leaving, step by step: a hole that goes down -/
structure Hole (n : Nat) (par : Nat → Nat) (f : Arr) (x : Int) (p : Nat) (g : Arr) : Prop where
  pn : p < n
  emp : g p = none
  out : ∀ k, n ≤ k → g k = none
  nn : ∀ k x, g k = some x → 0 ≤ x
  inj : ∀ i j x, g i = some x → g j = some x → i = j
  up : ∀ k z, 0 < k → g k = some z → par k ≠ p → ∃ y, g (par k) = some y ∧ y < z
  upp : ∀ k z, 0 < k → g k = some z → par k = p → 0 < p → ∃ y, g (par p) = some y ∧ y < z
  anc : ∀ k, Above par k p → k ≠ p → ∃ y, g k = some y
  ppl : ∀ z, Ppl g z ↔ Ppl f z ∧ z ≠ x
  und : ∀ k z, g k = some z → ∃ q, f q = some z ∧ Above par k q
  off : ∀ k, ¬ Above par k p → g k = f k
  prm : ((pathTo par p).map f).Perm ((pathTo par p).dropLast.map g ++ [some x])
theorem Hole.start (T : TreeOk n par) (V : Valid n par f) {x : Int} {p : Nat} (h : f p = some x) : Hole n par f x p (fset f p none) where
  pn := V.lt h
  emp := fset_same _ _ _
  out := fun k hk => by
    by_cases e : k = p
    · subst e; exact fset_same _ _ _
    · rw [fset_ne _ _ e]; exact V.out k hk
  nn := fun k z hk => by
    by_cases e : k = p
    · subst e; rw [fset_same] at hk; cases hk
    · rw [fset_ne _ _ e] at hk; exact V.nn k z hk
  inj := fun i j z hi hj => by
    by_cases e : i = p
    · subst e; rw [fset_same] at hi; cases hi
    · by_cases e' : j = p
      · subst e'; rw [fset_same] at hj; cases hj
      · rw [fset_ne _ _ e] at hi
        rw [fset_ne _ _ e'] at hj
        exact V.inj i j z hi hj
  up := fun k z h0 hk hne => by
    by_cases e : k = p
    · subst e; rw [fset_same] at hk; cases hk
    · rw [fset_ne _ _ e] at hk
      rw [fset_ne _ _ hne]
      exact V.up k z h0 hk
  upp := fun k z h0 hk he hp => by
    by_cases e : k = p
    · subst e; rw [fset_same] at hk; cases hk
    · rw [fset_ne _ _ e] at hk
      obtain ⟨y, e1, l1⟩ := V.up k z h0 hk
      rw [he, h] at e1
      have e1 := Option.some.inj e1
      obtain ⟨y', e2, l2⟩ := V.up p x hp h
      have hl := T.lt p hp (V.lt h)
      exact ⟨y', by rw [fset_ne _ _ (by omega)]; exact e2, by omega⟩
  anc := fun k a ne => by
    obtain ⟨y, e, _⟩ := V.anc a h
    exact ⟨y, by rw [fset_ne _ _ ne]; exact e⟩
  ppl := fun z => by
    constructor
    · rintro ⟨k, hk⟩
      by_cases e : k = p
      · subst e; rw [fset_same] at hk; cases hk
      · rw [fset_ne _ _ e] at hk
        exact ⟨⟨k, hk⟩, fun q => e (V.inj _ _ _ hk (q ▸ h))⟩
    · rintro ⟨⟨k, hk⟩, hz⟩
      refine ⟨k, ?_⟩
      rw [fset_ne _ _ (by rintro rfl; rw [h] at hk; exact hz (Option.some.inj hk).symm)]
      exact hk
  und := fun k z hk => by
    by_cases e : k = p
    · subst e; rw [fset_same] at hk; cases hk
    · rw [fset_ne _ _ e] at hk; exact ⟨k, hk, .refl⟩
  off := fun k hk => fset_ne _ _ (by rintro rfl; exact hk (.refl))
  prm := by
    have e1 : (pathTo par p).map f = (pathTo par p).dropLast.map f ++ [some x] := by
      conv => lhs; rw [pathTo_last T p (V.lt h)]
      rw [List.map_append, List.map_singleton, h]
    have e2 : (pathTo par p).dropLast.map (fset f p none) = (pathTo par p).dropLast.map f := by
      apply List.map_congr_left
      intro a ha
      exact fset_ne _ _ ((mem_drop T (V.lt h)).mp ha).2
    rw [e1, e2]
theorem Hole.down (T : TreeOk n par) {x : Int} {p : Nat} (h : Hole n par f x p g) {c : Nat} {z : Int} (c0 : 0 < c) (cn : c < n) (pc : par c = p) (hc : g c = some z)
    (mn : ∀ k w, 0 < k → par k = p → g k = some w → z ≤ w) : Hole n par f x c (fset (fset g p (some z)) c none) := by
  have lt := T.lt c c0 cn
  have cp : p ≠ c := by omega
  have apc : Above par p c := .step c0 (pc ▸ .refl)
  have gp : fset (fset g p (some z)) c none p = some z := by rw [fset_ne _ _ cp, fset_same]
  have gc : fset (fset g p (some z)) c none c = none := fset_same _ _ _
  have go : ∀ k, k ≠ p → k ≠ c → fset (fset g p (some z)) c none k = g k := fun k a b => by rw [fset_ne _ _ b, fset_ne _ _ a]
  refine ⟨cn, gc, fun k hk => ?_, fun k w hk => ?_, fun i j w hi hj => ?_, fun k w h0 hk hne => ?_, fun k w h0 hk he _ => ?_, fun k a ne => ?_, fun w => ?_, fun k w hk => ?_, fun k hk => ?_, ?_⟩
  · have := h.pn
    rw [go k (by omega) (by omega)]; exact h.out k hk
  · by_cases e1 : k = c
    · subst e1; rw [gc] at hk; cases hk
    · by_cases e2 : k = p
      · subst e2; rw [gp] at hk; cases hk; exact h.nn _ _ hc
      · rw [go k e2 e1] at hk; exact h.nn _ _ hk
  · have key : ∀ i, fset (fset g p (some z)) c none i = some w → (i = p ∧ w = z) ∨ (i ≠ p ∧ i ≠ c ∧ g i = some w) := fun i hi => by
      by_cases e1 : i = c
      · subst e1; rw [gc] at hi; cases hi
      · by_cases e2 : i = p
        · subst e2; rw [gp] at hi; exact .inl ⟨rfl, (Option.some.inj hi).symm⟩
        · rw [go i e2 e1] at hi; exact .inr ⟨e2, e1, hi⟩
    rcases key i hi with ⟨a, b⟩ | ⟨a, b, a3⟩
    · rcases key j hj with ⟨a', b'⟩ | ⟨a', b', a3'⟩
      · omega
      · subst b; exact absurd (h.inj _ _ _ a3' hc) b'
    · rcases key j hj with ⟨a', b'⟩ | ⟨a', b', a3'⟩
      · subst b'; exact absurd (h.inj _ _ _ a3 hc) b
      · exact h.inj _ _ _ a3 a3'
  · by_cases e1 : k = c
    · subst e1; rw [gc] at hk; cases hk
    · by_cases e2 : k = p
      · subst e2
        rw [gp] at hk; cases hk
        obtain ⟨y, e, l⟩ := h.upp c z c0 hc pc h0
        have := T.lt k h0 h.pn
        exact ⟨y, by rw [go _ (by omega) (by omega)]; exact e, l⟩
      · rw [go k e2 e1] at hk
        by_cases e3 : par k = p
        · refine ⟨z, by rw [e3]; exact gp, ?_⟩
          have l := mn k w h0 e3 hk
          rcases Int.lt_or_eq_of_le l with l | l
          · exact l
          · subst l; exact absurd (h.inj _ _ _ hk hc) e1
        · obtain ⟨y, e, l⟩ := h.up k w h0 hk e3
          exact ⟨y, by rw [go _ e3 hne]; exact e, l⟩
  · have kn : k < n := by
      rcases Nat.lt_or_ge k n with h1 | h1
      · exact h1
      · have := h.pn
        rw [go k (by omega) (by omega), h.out k h1] at hk; cases hk
    have := T.lt k h0 kn
    rw [go k (by omega) (by omega)] at hk
    obtain ⟨y, e, l⟩ := h.up k w h0 hk (by omega)
    rw [he, hc] at e; cases e
    exact ⟨z, by rw [pc]; exact gp, l⟩
  · have a' := (a.up ne).2
    rw [pc] at a'
    by_cases e : k = p
    · subst e; exact ⟨z, gp⟩
    · obtain ⟨y, e1⟩ := h.anc k a' e
      exact ⟨y, by rw [go k e ne]; exact e1⟩
  · rw [← h.ppl w]
    constructor
    · rintro ⟨k, hk⟩
      by_cases e1 : k = c
      · subst e1; rw [gc] at hk; cases hk
      · by_cases e2 : k = p
        · subst e2; rw [gp] at hk; cases hk; exact ⟨c, hc⟩
        · rw [go k e2 e1] at hk; exact ⟨k, hk⟩
    · rintro ⟨k, hk⟩
      by_cases e1 : k = c
      · subst e1; rw [hc] at hk; cases hk; exact ⟨p, gp⟩
      · by_cases e2 : k = p
        · subst e2; rw [h.emp] at hk; cases hk
        · exact ⟨k, by rw [go k e2 e1]; exact hk⟩
  · by_cases e1 : k = c
    · subst e1; rw [gc] at hk; cases hk
    · by_cases e2 : k = p
      · subst e2; rw [gp] at hk; cases hk
        obtain ⟨q, e, a⟩ := h.und c z hc
        exact ⟨q, e, apc.trans a⟩
      · rw [go k e2 e1] at hk; exact h.und k w hk
  · rw [go k (by rintro rfl; exact hk apc) (by rintro rfl; exact hk (.refl))]
    exact h.off k fun a => hk (a.trans apc)
  · have hpn := h.pn
    rw [pathTo_succ T c0 cn, pc, List.dropLast_concat, List.map_append, List.map_singleton]
    have fc : f c = some z := by
      rw [← h.off c (fun a => by have := a.le T h.pn; omega)]; exact hc
    have e1 : (pathTo par p).map (fset (fset g p (some z)) c none) = (pathTo par p).dropLast.map g ++ [some z] := by
      conv => lhs; rw [pathTo_last T p h.pn]
      rw [List.map_append, List.map_singleton, gp]
      congr 1
      apply List.map_congr_left
      intro a ha
      obtain ⟨a1, a2⟩ := (mem_drop T h.pn).mp ha
      have := a1.le T h.pn
      exact go a a2 (by omega)
    rw [fc, e1]
    have := h.prm.append_right [some z]
    refine this.trans ?_
    rw [List.append_assoc, List.append_assoc]
    exact List.Perm.append_left _ (List.Perm.swap _ _ _)
/-- the whole of a departure: g behind, e the post that is empty in the end -/
structure LvE (n : Nat) (par : Nat → Nat) (f : Arr) (x : Int) (e : Nat) (g : Arr) : Prop extends Lv n par f x g where
  en : e < n
  emp : g e = none
  anc : ∀ k, Above par k e → k ≠ e → ∃ y, g k = some y
  off : ∀ k, ¬ Above par k e → g k = f k
  prm : ((pathTo par e).map f).Perm ((pathTo par e).dropLast.map g ++ [some x])
theorem Hole.fin {x : Int} {p : Nat} (h : Hole n par f x p g) (no : ∀ k, 0 < k → par k = p → g k = none) : LvE n par f x p g where
  val := ⟨h.out, h.nn, h.inj, fun k z h0 hk => h.up k z h0 hk fun e => by rw [no k h0 e] at hk; cases hk⟩
  ppl := h.ppl
  und := h.und
  en := h.pn
  emp := h.emp
  anc := h.anc
  off := h.off
  prm := h.prm
def Open (n : Nat) (par : Nat → Nat) (f : Arr) (e : Nat) : Prop := e < n ∧ f e = none ∧ (e = 0 ∨ ∃ y, f (par e) = some y)
theorem LvE.opn (T : TreeOk n par) {x : Int} {e : Nat} (h : LvE n par f x e g) : Open n par g e := by
  refine ⟨h.en, h.emp, ?_⟩
  by_cases h0 : e = 0
  · exact .inl h0
  · have l := T.lt e (by omega) h.en
    exact .inr (h.anc _ (Above.one (by omega)) (by omega))
end
end MU
end

section
set_option autoImplicit false
set_option linter.all false
namespace MU
/-! The mathematics of joining. -/
structure JnE (par : Nat → Nat) (g : Arr) (x : Int) (e : Nat) (g' : Arr) : Prop where
  ex : ∃ vs ws : List Int, (pathTo par e).dropLast.map g = vs.map some ∧ ws.Perm (vs ++ [x]) ∧ ws.Pairwise (· ≤ ·) ∧ (pathTo par e).map g' = ws.map some
  off : ∀ k, k ∉ pathTo par e → g' k = g k
theorem map_some_inj : ∀ {a b : List Int}, a.map some = b.map some → a = b
  | [], [], _ => rfl
  | [], _ :: _, h => by cases h
  | _ :: _, [], h => by cases h
  | _ :: _, _ :: _, h => by
    rw [List.map_cons, List.map_cons] at h
    injection h with h1 h2
    rw [Option.some.inj h1, map_some_inj h2]
theorem map_some_perm {a b : List Int} (h : (a.map some).Perm (b.map some)) : a.Perm b := by
  have := List.Perm.filterMap (fun o : Option Int => o) h
  rwa [List.filterMap_map, List.filterMap_map, show ((fun o : Option Int => o) ∘ some) = some from rfl, List.filterMap_some, List.filterMap_some] at this
theorem all_some {f : Arr} : ∀ {l : List Nat}, (∀ k ∈ l, ∃ y, f k = some y) → ∃ ws : List Int, l.map f = ws.map some
  | [], _ => ⟨[], rfl⟩
  | k :: l, h => by
    obtain ⟨y, e⟩ := h k List.mem_cons_self
    obtain ⟨ws, e2⟩ := all_some fun j hj => h j (List.mem_cons_of_mem _ hj)
    exact ⟨y :: ws, by rw [List.map_cons, List.map_cons, e, e2]⟩
theorem map_ext_mem {f g : Arr} : ∀ {l : List Nat}, l.map f = l.map g → ∀ k ∈ l, f k = g k
  | k :: l, h, j, hj => by
    rw [List.map_cons, List.map_cons] at h
    injection h with h1 h2
    rcases List.mem_cons.mp hj with rfl | hj
    · exact h1
    · exact map_ext_mem h2 j hj
theorem mem_map_some {f : Arr} {l : List Nat} {ws : List Int} (h : l.map f = ws.map some) (z : Int) : z ∈ ws ↔ ∃ k ∈ l, f k = some z := by
  have : some z ∈ l.map f ↔ some z ∈ ws.map some := by rw [h]
  rw [List.mem_map, List.mem_map] at this
  constructor
  · intro hz
    obtain ⟨k, hk, e⟩ := this.mpr ⟨z, hz, rfl⟩
    exact ⟨k, hk, e⟩
  · intro hk
    obtain ⟨y, hy, e⟩ := this.mp hk
    rw [← Option.some.inj e]; exact hy
section
variable {n : Nat} {par : Nat → Nat} {f g h g' : Arr} {x : Int} {e : Nat}
theorem JnE.uniq {g1 g2 : Arr} (a : JnE par g x e g1) (b : JnE par g x e g2) : g1 = g2 := by
  obtain ⟨⟨vs, ws, a1, a2, a3, a4⟩, a5⟩ := a
  obtain ⟨⟨vs', ws', b1, b2, b3, b4⟩, b5⟩ := b
  have e1 : vs = vs' := map_some_inj (a1.symm.trans b1)
  subst e1
  have e2 : ws = ws' := List.Perm.eq_of_pairwise (fun a b _ _ h1 h2 => Int.le_antisymm h1 h2) a3 b3 (a2.trans b2.symm)
  subst e2
  funext k
  by_cases hk : k ∈ pathTo par e
  · exact map_ext_mem (a4.trans b4.symm) k hk
  · rw [a5 k hk, b5 k hk]
/-- the values on a path of a valid arrangement rise -/
theorem path_rises (T : TreeOk n par) (V : Valid n par f) (he : e < n) {ws : List Int} (h : (pathTo par e).map f = ws.map some) : ws.Pairwise (· < ·) := by
  have p1 : ((pathTo par e).map f).Pairwise (fun a b => ∀ x y, a = some x → b = some y → x < y) := by
    rw [List.pairwise_map]
    refine (pathTo_pw T e he).imp fun {a b} hab x y e1 e2 => ?_
    obtain ⟨z, e3, _, l⟩ := V.anc hab.1 e2
    rw [e1] at e3
    have := l hab.2
    rw [← Option.some.inj e3] at this
    exact this
  rw [h, List.pairwise_map] at p1
  exact p1.imp fun {a b} hab => hab a b rfl rfl
theorem lt_nodup {ws : List Int} (h : ws.Pairwise (· < ·)) : ws.Nodup := h.imp fun {a b} z => by omega
theorem LvE.undo (T : TreeOk n par) (V : Valid n par f) (h : LvE n par f x e g) : JnE par g x e f := by
  have he := h.en
  obtain ⟨vs, e1⟩ := all_some (f := g) (l := (pathTo par e).dropLast) fun k hk => by
    obtain ⟨a, b⟩ := (mem_drop T he).mp hk
    exact h.anc k a b
  have p := h.prm
  rw [e1, show ([some x] : List (Option Int)) = [x].map some from rfl, ← List.map_append] at p
  obtain ⟨ws, e2⟩ := all_some (f := f) (l := pathTo par e) fun k hk => by
    have : f k ∈ (vs ++ [x]).map some := p.mem_iff.mp (List.mem_map.mpr ⟨k, hk, rfl⟩)
    obtain ⟨y, _, e⟩ := List.mem_map.mp this
    exact ⟨y, e.symm⟩
  rw [e2] at p
  refine ⟨⟨vs, ws, e1, map_some_perm p, (path_rises T V he e2).imp fun {a b} z => by omega, e2⟩, fun k hk => ?_⟩
  exact (h.off k fun a => hk ((mem_pathTo T e he k).mpr a)).symm
/-- the new person on the way up -/
structure Bub (n : Nat) (par : Nat → Nat) (g : Arr) (x : Int) (e p : Nat) (h : Arr) : Prop where
  ab : Above par p e
  at_ : h p = some x
  fe : ∃ y, h e = some y
  out : ∀ k, n ≤ k → h k = none
  nn : ∀ k z, h k = some z → 0 ≤ z
  inj : ∀ i j z, h i = some z → h j = some z → i = j
  up : ∀ k z, 0 < k → k ≠ p → h k = some z → ∃ y, h (par k) = some y ∧ y < z
  upp : 0 < p → ∃ y, h (par p) = some y ∧ ∀ k z, 0 < k → par k = p → h k = some z → y < z
  ppl : ∀ z, Ppl h z ↔ Ppl g z ∨ z = x
  off : ∀ k, k ∉ pathTo par e → h k = g k
theorem Bub.start (T : TreeOk n par) (V : Valid n par g) (O : Open n par g e) (nx : ¬ Ppl g x) (x0 : 0 ≤ x) : Bub n par g x e e (fset g e (some x)) := by
  obtain ⟨he, g0, hp⟩ := O
  have key : ∀ {k : Nat} {z : Int}, fset g e (some x) k = some z → (k = e ∧ z = x) ∨ (k ≠ e ∧ g k = some z) := fun {k z} h => by
    by_cases c : k = e
    · subst c; rw [fset_same] at h; exact .inl ⟨rfl, (Option.some.inj h).symm⟩
    · rw [fset_ne _ _ c] at h; exact .inr ⟨c, h⟩
  refine ⟨.refl, fset_same _ _ _, ⟨x, fset_same _ _ _⟩, fun k hk => ?_, fun k z hk => ?_, fun i j z hi hj => ?_, fun k z h0 hne hk => ?_, fun h0 => ?_, fun z => ?_, fun k hk => ?_⟩
  · rw [fset_ne _ _ (by omega)]; exact V.out k hk
  · rcases key hk with ⟨_, rfl⟩ | ⟨_, h⟩
    · exact x0
    · exact V.nn _ _ h
  · rcases key hi with ⟨rfl, rfl⟩ | ⟨a, b⟩
    · rcases key hj with ⟨rfl, _⟩ | ⟨_, b⟩
      · rfl
      · exact absurd ⟨j, b⟩ nx
    · rcases key hj with ⟨rfl, rfl⟩ | ⟨_, b'⟩
      · exact absurd ⟨i, b⟩ nx
      · exact V.inj _ _ _ b b'
  · rw [fset_ne _ _ hne] at hk
    obtain ⟨y, e1, l⟩ := V.up k z h0 hk
    refine ⟨y, ?_, l⟩
    rw [fset_ne]
    · exact e1
    · intro c; rw [c, g0] at e1; cases e1
  · rcases hp with hp | ⟨y, hy⟩
    · omega
    · have := T.lt e h0 he
      refine ⟨y, by rw [fset_ne _ _ (by omega)]; exact hy, fun k z k0 hk h => ?_⟩
      rcases key h with ⟨rfl, _⟩ | ⟨_, h⟩
      · omega
      · obtain ⟨w, e1, _⟩ := V.up k z k0 h
        rw [hk, g0] at e1; cases e1
  · constructor
    · rintro ⟨k, hk⟩
      rcases key hk with ⟨_, h⟩ | ⟨_, h⟩
      · exact .inr h
      · exact .inl ⟨k, h⟩
    · rintro (⟨k, hk⟩ | rfl)
      · refine ⟨k, ?_⟩
        rw [fset_ne _ _ (by rintro rfl; rw [g0] at hk; cases hk)]; exact hk
      · exact ⟨e, fset_same _ _ _⟩
  · rw [fset_ne _ _ (by rintro rfl; exact hk ((mem_pathTo T k he k).mpr .refl))]
theorem Bub.fin {p : Nat} (b : Bub n par g x e p h) (c : 0 < p → ∃ y, h (par p) = some y ∧ y < x) : Valid n par h :=
  ⟨b.out, b.nn, b.inj, fun k z h0 hk => by
    by_cases ck : k = p
    · subst ck
      rw [b.at_] at hk; cases hk
      exact c h0
    · exact b.up k z h0 ck hk⟩
theorem Bub.step (T : TreeOk n par) (he : e < n) {p : Nat} (b : Bub n par g x e p h) (h0 : 0 < p) {y : Int} (hy : h (par p) = some y) (l : x < y) : Bub n par g x e (par p) (fset (fset h (par p) (some x)) p (some y)) := by
  have pn : p < n := Nat.lt_of_le_of_lt (b.ab.le T he) he
  have lt := T.lt p h0 pn
  have qa : Above par (par p) e := (Above.one h0).trans b.ab
  have hq : fset (fset h (par p) (some x)) p (some y) (par p) = some x := by rw [fset_ne _ _ (by omega), fset_same]
  have hp : fset (fset h (par p) (some x)) p (some y) p = some y := fset_same _ _ _
  have ho : ∀ k, k ≠ p → k ≠ par p → fset (fset h (par p) (some x)) p (some y) k = h k := fun k a c => by rw [fset_ne _ _ a, fset_ne _ _ c]
  generalize hh' : fset (fset h (par p) (some x)) p (some y) = h' at *
  have key : ∀ {k : Nat} {z : Int}, h' k = some z → (k = p ∧ z = y) ∨ (k = par p ∧ z = x) ∨ (k ≠ p ∧ k ≠ par p ∧ h k = some z) := fun {k z} h1 => by
    by_cases c : k = p
    · subst c; rw [hp] at h1; exact .inl ⟨rfl, (Option.some.inj h1).symm⟩
    · by_cases c2 : k = par p
      · subst c2; rw [hq] at h1; exact .inr (.inl ⟨rfl, (Option.some.inj h1).symm⟩)
      · rw [ho k c c2] at h1; exact .inr (.inr ⟨c, c2, h1⟩)
  refine ⟨qa, hq, ?_, fun k hk => ?_, fun k z hk => ?_, fun i j z hi hj => ?_, fun k z k0 hne hk => ?_, fun q0 => ?_, fun z => ?_, fun k hk => ?_⟩
  · obtain ⟨w, hw⟩ := b.fe
    by_cases c : e = p
    · subst c; exact ⟨y, hp⟩
    · by_cases c2 : e = par p
      · exact ⟨x, by rw [c2]; exact hq⟩
      · exact ⟨w, by rw [ho e c c2]; exact hw⟩
  · rw [ho k (by omega) (by omega)]; exact b.out k hk
  · rcases key hk with ⟨_, rfl⟩ | ⟨_, rfl⟩ | ⟨_, _, h1⟩
    · exact b.nn _ _ hy
    · exact b.nn _ _ b.at_
    · exact b.nn _ _ h1
  · have back : ∀ {k : Nat}, h' k = some z → (k = p ∧ h (par p) = some z) ∨ (k = par p ∧ h p = some z) ∨ (k ≠ p ∧ k ≠ par p ∧ h k = some z) := fun {k} h1 => by
      rcases key h1 with ⟨a, rfl⟩ | ⟨a, rfl⟩ | c
      · exact .inl ⟨a, hy⟩
      · exact .inr (.inl ⟨a, b.at_⟩)
      · exact .inr (.inr c)
    rcases back hi with ⟨i1, i2⟩ | ⟨i1, i2⟩ | ⟨i1, i3, i2⟩ <;> rcases back hj with ⟨j1, j2⟩ | ⟨j1, j2⟩ | ⟨j1, j3, j2⟩ <;> have := b.inj _ _ _ i2 j2 <;> omega
  · rcases key hk with ⟨rfl, rfl⟩ | ⟨rfl, _⟩ | ⟨c1, c2, h1⟩
    · exact ⟨x, hq, l⟩
    · exact absurd rfl hne
    · by_cases c3 : par k = p
      · refine ⟨y, by rw [c3]; exact hp, ?_⟩
        obtain ⟨w, hw, hl⟩ := b.upp h0
        rw [hy] at hw; cases hw
        exact hl k z k0 c3 h1
      · obtain ⟨w, hw, hl⟩ := b.up k z k0 c1 h1
        by_cases c4 : par k = par p
        · refine ⟨x, by rw [c4]; exact hq, ?_⟩
          rw [c4, hy] at hw; cases hw
          omega
        · exact ⟨w, by rw [ho _ c3 c4]; exact hw, hl⟩
  · obtain ⟨w, hw, hl⟩ := b.up (par p) y q0 (by omega) hy
    have lt2 := T.lt (par p) q0 (by omega)
    refine ⟨w, by rw [ho _ (by omega) (by omega)]; exact hw, fun k z k0 hk h1 => ?_⟩
    rcases key h1 with ⟨rfl, rfl⟩ | ⟨rfl, _⟩ | ⟨c1, c2, h1⟩
    · exact hl
    · omega
    · obtain ⟨u, hu, hl2⟩ := b.up k z k0 c1 h1
      rw [hk, hy] at hu; cases hu
      omega
  · rw [← b.ppl z]
    constructor
    · rintro ⟨k, hk⟩
      rcases key hk with ⟨_, rfl⟩ | ⟨_, rfl⟩ | ⟨_, _, h1⟩
      · exact ⟨_, hy⟩
      · exact ⟨_, b.at_⟩
      · exact ⟨_, h1⟩
    · rintro ⟨k, hk⟩
      by_cases c : k = p
      · subst c; rw [b.at_] at hk; cases hk; exact ⟨_, hq⟩
      · by_cases c2 : k = par p
        · subst c2; rw [hy] at hk; cases hk; exact ⟨_, hp⟩
        · exact ⟨k, by rw [ho k c c2]; exact hk⟩
  · rw [ho k (by rintro rfl; exact hk ((mem_pathTo T e he k).mpr b.ab)) (by rintro rfl; exact hk ((mem_pathTo T e he _).mpr qa))]
    exact b.off k hk
theorem Bub.done (T : TreeOk n par) (he : e < n) : ∀ (p : Nat) (h : Arr), Bub n par g x e p h → ∃ h', Valid n par h' ∧ (∀ z, Ppl h' z ↔ Ppl g z ∨ z = x) ∧ (∀ k, k ∉ pathTo par e → h' k = g k) ∧ ∃ y, h' e = some y := fun p => by
  induction p using Nat.strongRecOn with
  | ind p ih =>
    intro h b
    by_cases p0 : p = 0
    · subst p0
      exact ⟨h, b.fin (fun z => by omega), b.ppl, b.off, b.fe⟩
    · have pn : p < n := Nat.lt_of_le_of_lt (b.ab.le T he) he
      have lt := T.lt p (by omega) pn
      obtain ⟨y, hy, _⟩ := b.upp (by omega)
      rcases Int.lt_trichotomy y x with c | c | c
      · exact ⟨h, b.fin (fun _ => ⟨y, hy, c⟩), b.ppl, b.off, b.fe⟩
      · subst c
        have := b.inj _ _ _ hy b.at_
        omega
      · exact ih (par p) lt _ (b.step T he (by omega) hy c)
/-- joining at an open post -/
theorem JnE.valid (T : TreeOk n par) (V : Valid n par g) (O : Open n par g e) (nx : ¬ Ppl g x) (x0 : 0 ≤ x) (J : JnE par g x e g') : Valid n par g' ∧ ∀ z, Ppl g' z ↔ Ppl g z ∨ z = x := by
  have he := O.1
  obtain ⟨h, hv, hp, ho, y, hy⟩ := Bub.done T he e _ (Bub.start T V O nx x0)
  suffices JnE par g x e h by rw [J.uniq this]; exact ⟨hv, hp⟩
  have gd : ∀ k ∈ (pathTo par e).dropLast, ∃ y, g k = some y := fun k hk => by
    obtain ⟨a, b⟩ := (mem_drop T he).mp hk
    obtain ⟨_, _, hpe⟩ := O
    obtain ⟨e0, a'⟩ := a.up b
    rcases hpe with hpe | ⟨w, hw⟩
    · omega
    · obtain ⟨u, hu, _⟩ := V.anc a' hw
      exact ⟨u, hu⟩
  obtain ⟨vs, e1⟩ := all_some gd
  obtain ⟨ws, e2⟩ := all_some (f := h) (l := pathTo par e) fun k hk => by
    obtain ⟨u, hu, _⟩ := hv.anc ((mem_pathTo T e he k).mp hk) hy
    exact ⟨u, hu⟩
  have r := path_rises T hv he e2
  refine ⟨⟨vs, ws, e1, ?_, r.imp fun {a b} z => by omega, e2⟩, ho⟩
  have ndv : vs.Nodup := by
    have p1 : ((pathTo par e).dropLast.map g).Pairwise (fun a b => ∀ x y, a = some x → b = some y → x ≠ y) := by
      rw [List.pairwise_map]
      refine List.Pairwise.imp ?_ (List.Pairwise.sublist (List.dropLast_sublist _) (pathTo_pw T e he))
      intro a b hab x y e1 e2 exy
      subst exy
      exact hab.2 (V.inj _ _ _ e1 e2)
    rw [e1, List.pairwise_map] at p1
    exact p1.imp fun {a b} hab => hab a b rfl rfl
  have ndx : (vs ++ [x]).Nodup := by
    rw [List.nodup_append]
    refine ⟨ndv, List.nodup_cons.mpr ⟨List.not_mem_nil, List.nodup_nil⟩, fun a ha b hb => ?_⟩
    rw [List.mem_singleton] at hb
    subst hb
    rintro rfl
    obtain ⟨k, _, hk⟩ := (mem_map_some e1 a).mp ha
    exact nx ⟨k, hk⟩
  rw [List.perm_ext_iff_of_nodup (lt_nodup r) ndx]
  intro z
  rw [mem_map_some e2, List.mem_append, mem_map_some e1, List.mem_singleton]
  constructor
  · rintro ⟨k, hk, hz⟩
    rcases (hp z).mp ⟨k, hz⟩ with ⟨q, hq⟩ | hz'
    · left
      have qp : q ∈ pathTo par e := Classical.byContradiction fun c => by
        have := hv.inj _ _ _ hz ((ho q c).trans hq)
        exact c (this ▸ hk)
      refine ⟨q, (mem_drop T he).mpr ⟨(mem_pathTo T e he q).mp qp, ?_⟩, hq⟩
      rintro rfl
      rw [O.2.1] at hq; cases hq
    · exact .inr hz'
  · rintro (⟨q, hq, hz⟩ | rfl)
    · obtain ⟨k, hk⟩ := (hp z).mpr (.inl ⟨q, hz⟩)
      refine ⟨k, Classical.byContradiction fun c => ?_, hk⟩
      rw [ho k c] at hk
      have := V.inj _ _ _ hk hz
      subst this
      exact c (List.dropLast_subset _ hq)
    · obtain ⟨k, hk⟩ := (hp z).mpr (.inr rfl)
      refine ⟨k, Classical.byContradiction fun c => ?_, hk⟩
      rw [ho k c] at hk
      exact nx ⟨k, hk⟩
end
end MU
end

section
set_option autoImplicit false
set_option linter.all false
namespace MU
/-! Steps and plans. -/
inductive Stp where
  | lv (x : Int)
  | jn (x : Int) (e : Nat)
def StOk (n : Nat) : Stp → Prop
  | .lv x => 0 ≤ x
  | .jn x e => 0 ≤ x ∧ e < n
def PStep (n : Nat) (par : Nat → Nat) (f : Arr) (s : Stp) (g : Arr) : Prop := match s with
  | .lv x => Ppl f x ∧ ∃ e, LvE n par f x e g
  | .jn x e => ¬ Ppl f x ∧ Open n par f e ∧ 0 ≤ x ∧ JnE par f x e g ∧ Valid n par g
def PlaysTo (n : Nat) (par : Nat → Nat) : Arr → List Stp → Arr → Prop
  | f, [], h => f = h
  | f, s :: ss, h => ∃ g, PStep n par f s g ∧ PlaysTo n par g ss h
/-- people leave one behind another -/
def Lje (n : Nat) (par : Nat → Nat) : Arr → List (Int × Nat) → Arr → Prop
  | f, [], g => f = g
  | f, (x, e) :: r, g => ∃ h, Ppl f x ∧ LvE n par f x e h ∧ Lje n par h r g
def Lvs (n : Nat) (par : Nat → Nat) (f : Arr) (xs : List Int) (g : Arr) : Prop := ∃ l, l.map (·.1) = xs ∧ Lje n par f l g
section
variable {n : Nat} {par : Nat → Nat} {f g h : Arr}
theorem PStep.val (V : Valid n par f) {s : Stp} (p : PStep n par f s g) : Valid n par g := by
  cases s with
  | lv x => obtain ⟨_, e, l⟩ := p; exact l.val
  | jn x e => exact p.2.2.2.2
theorem PStep.uniq (T : TreeOk n par) (V : Valid n par f) {s : Stp} {g1 g2 : Arr} (a : PStep n par f s g1) (b : PStep n par f s g2) : g1 = g2 := by
  cases s with
  | lv x =>
    obtain ⟨_, e, l⟩ := a
    obtain ⟨_, e', l'⟩ := b
    exact l.toLv.uniq T V l'.toLv
  | jn x e => exact a.2.2.2.1.uniq b.2.2.2.1
theorem PStep.ok {s : Stp} (V : Valid n par f) (p : PStep n par f s g) : StOk n s := by
  cases s with
  | lv x =>
    obtain ⟨⟨k, hk⟩, _⟩ := p
    exact V.nn _ _ hk
  | jn x e => exact ⟨p.2.2.1, p.2.1.1⟩
theorem PlaysTo.append : ∀ {a : List Stp} {f g h : Arr} {b : List Stp}, PlaysTo n par f a g → PlaysTo n par g b h → PlaysTo n par f (a ++ b) h
  | [], _, _, _, _, p, q => by cases p; exact q
  | s :: a, _, _, _, _, ⟨g1, p1, p2⟩, q => ⟨g1, p1, PlaysTo.append p2 q⟩
theorem PlaysTo.ok : ∀ {a : List Stp} {f g : Arr}, Valid n par f → PlaysTo n par f a g → ∀ s ∈ a, StOk n s
  | [], _, _, _, _, s, hs => nomatch hs
  | t :: a, _, _, V, ⟨g1, p1, p2⟩, s, hs => by
    rcases List.mem_cons.mp hs with rfl | hs
    · exact p1.ok V
    · exact PlaysTo.ok (p1.val V) p2 s hs
theorem PlaysTo.val : ∀ {a : List Stp} {f g : Arr}, Valid n par f → PlaysTo n par f a g → Valid n par g
  | [], _, _, V, p => by cases p; exact V
  | t :: a, _, _, V, ⟨g1, p1, p2⟩ => PlaysTo.val (p1.val V) p2
theorem Lje.plays : ∀ {l : List (Int × Nat)} {f g : Arr}, Lje n par f l g → PlaysTo n par f ((l.map (·.1)).map .lv) g
  | [], _, _, p => p
  | (x, e) :: l, _, _, ⟨h, a, b, c⟩ => ⟨h, ⟨a, e, b⟩, Lje.plays c⟩
theorem Lvs.plays {xs : List Int} (p : Lvs n par f xs g) : PlaysTo n par f (xs.map .lv) g := by
  obtain ⟨l, rfl, p⟩ := p
  exact p.plays
theorem Lje.val : ∀ {l : List (Int × Nat)} {f g : Arr}, Valid n par f → Lje n par f l g → Valid n par g ∧ (∀ z, Ppl g z ↔ Ppl f z ∧ z ∉ l.map (·.1)) ∧ ∀ k z, g k = some z → ∃ q, f q = some z ∧ Above par k q
  | [], _, _, V, p => by
    cases p
    exact ⟨V, fun z => ⟨fun a => ⟨a, by simp⟩, fun a => a.1⟩, fun k z e => ⟨k, e, .refl⟩⟩
  | (x, e) :: l, f, g, V, ⟨h, a, b, c⟩ => by
    obtain ⟨v, p, u⟩ := Lje.val b.val c
    refine ⟨v, fun z => ?_, fun k z hk => ?_⟩
    · rw [p, b.ppl, List.map_cons, List.mem_cons]
      constructor
      · rintro ⟨⟨a, b⟩, c⟩; exact ⟨a, fun d => d.elim b c⟩
      · rintro ⟨a, b⟩; exact ⟨⟨a, fun c => b (.inl c)⟩, fun c => b (.inr c)⟩
    · obtain ⟨q, hq, aq⟩ := u k z hk
      obtain ⟨q2, hq2, aq2⟩ := b.und q z hq
      exact ⟨q2, hq2, aq.trans aq2⟩
theorem Lvs.val {xs : List Int} (V : Valid n par f) (p : Lvs n par f xs g) : Valid n par g ∧ (∀ z, Ppl g z ↔ Ppl f z ∧ z ∉ xs) ∧ ∀ k z, g k = some z → ∃ q, f q = some z ∧ Above par k q := by
  obtain ⟨l, rfl, p⟩ := p
  exact p.val V
theorem Lvs.uniq (T : TreeOk n par) (V : Valid n par f) {xs : List Int} {g1 g2 : Arr} (a : Lvs n par f xs g1) (b : Lvs n par f xs g2) : g1 = g2 := by
  obtain ⟨v1, p1, u1⟩ := a.val V
  obtain ⟨v2, p2, u2⟩ := b.val V
  exact MU.uniq T V.inj v1 v2 p1 p2 u1 u2
theorem Lje.snoc : ∀ {l : List (Int × Nat)} {f g h : Arr} {x : Int} {e : Nat}, Lje n par f l g → Ppl g x → LvE n par g x e h → Lje n par f (l ++ [(x, e)]) h
  | [], _, _, _, _, _, p, a, b => by cases p; exact ⟨_, a, b, rfl⟩
  | (y, d) :: l, _, _, _, _, _, ⟨h1, p1, p2, p3⟩, a, b => ⟨h1, p1, p2, Lje.snoc p3 a b⟩
theorem Lvs.snoc {xs : List Int} {x : Int} {e : Nat} (p : Lvs n par f xs g) (a : Ppl g x) (b : LvE n par g x e h) : Lvs n par f (xs ++ [x]) h := by
  obtain ⟨l, rfl, p⟩ := p
  exact ⟨l ++ [(x, e)], by simp, p.snoc a b⟩
theorem Lvs.nil : Lvs n par f [] f := ⟨[], rfl, rfl⟩
/-- people that have left come back, the last one first -/
theorem Lje.back (T : TreeOk n par) : ∀ {l : List (Int × Nat)} {f g : Arr}, Valid n par f → Lje n par f l g → PlaysTo n par g (l.reverse.map fun p => Stp.jn p.1 p.2) f
  | [], _, _, _, p => by cases p; rfl
  | (x, e) :: l, f, g, V, ⟨h, a, b, c⟩ => by
    have r := Lje.back T b.val c
    rw [List.reverse_cons, List.map_append]
    refine r.append ⟨f, ⟨fun q => ?_, b.opn T, ?_, b.undo T V, V⟩, rfl⟩
    · exact ((b.ppl x).mp q).2 rfl
    · obtain ⟨k, hk⟩ := a
      exact V.nn _ _ hk
/-- both sides come to the same place -/
theorem meet (T : TreeOk n par) {S : Int → Prop} {r1 r2 G : Arr} {xs ys : List Int} (Vf : Valid n par f) (Vg : Valid n par g) (VG : Valid n par G)
    (pG : ∀ z, Ppl G z ↔ S z) (uf : ∀ k z, G k = some z → ∃ q, f q = some z ∧ Above par k q) (ug : ∀ k z, G k = some z → ∃ q, g q = some z ∧ Above par k q)
    (hx : ∀ z, z ∈ xs ↔ Ppl f z ∧ ¬ S z) (hy : ∀ z, z ∈ ys ↔ Ppl g z ∧ ¬ S z) (a : Lvs n par f xs r1) (b : Lvs n par g ys r2) : r1 = r2 := by
  obtain ⟨v1, p1, u1⟩ := a.val Vf
  obtain ⟨v2, p2, u2⟩ := b.val Vg
  have e1 : r1 = G := by
    refine MU.uniq T Vf.inj v1 VG (S := S) (fun z => ?_) pG u1 uf
    rw [p1, hx]
    constructor
    · rintro ⟨a, b⟩; exact Classical.byContradiction fun c => b ⟨a, c⟩
    · intro s
      obtain ⟨k, hk⟩ := (pG z).mpr s
      obtain ⟨q, hq, _⟩ := uf k z hk
      exact ⟨⟨q, hq⟩, fun c => c.2 s⟩
  have e2 : r2 = G := by
    refine MU.uniq T Vg.inj v2 VG (S := S) (fun z => ?_) pG u2 ug
    rw [p2, hy]
    constructor
    · rintro ⟨a, b⟩; exact Classical.byContradiction fun c => b ⟨a, c⟩
    · intro s
      obtain ⟨k, hk⟩ := (pG z).mpr s
      obtain ⟨q, hq, _⟩ := ug k z hk
      exact ⟨⟨q, hq⟩, fun c => c.2 s⟩
  rw [e1, e2]
end
end MU
end

section
set_option autoImplicit false
set_option linter.all false
namespace MU
/-! Leaving always works; the greedy choice of those who stay. -/
theorem ex_min {v : Nat → Option Int} : ∀ (l : List Nat), (∃ c ∈ l, ∃ z, v c = some z) → ∃ c ∈ l, ∃ z, v c = some z ∧ ∀ k ∈ l, ∀ w, v k = some w → z ≤ w
  | [], ⟨c, h, _⟩ => nomatch h
  | a :: l, h => by
    by_cases hl : ∃ c ∈ l, ∃ z, v c = some z
    · obtain ⟨c, hc, z, e, m⟩ := ex_min l hl
      cases ea : v a with
      | none =>
        refine ⟨c, List.mem_cons_of_mem _ hc, z, e, fun k hk w ew => ?_⟩
        rcases List.mem_cons.mp hk with rfl | hk
        · rw [ea] at ew; cases ew
        · exact m k hk w ew
      | some y =>
        by_cases lt : y ≤ z
        · refine ⟨a, List.mem_cons_self, y, ea, fun k hk w ew => ?_⟩
          rcases List.mem_cons.mp hk with rfl | hk
          · rw [ea] at ew; cases ew; exact Int.le_refl _
          · have := m k hk w ew; omega
        · refine ⟨c, List.mem_cons_of_mem _ hc, z, e, fun k hk w ew => ?_⟩
          rcases List.mem_cons.mp hk with rfl | hk
          · rw [ea] at ew; cases ew; omega
          · exact m k hk w ew
    · obtain ⟨c, hc, z, e⟩ := h
      rcases List.mem_cons.mp hc with rfl | hc
      · refine ⟨c, List.mem_cons_self, z, e, fun k hk w ew => ?_⟩
        rcases List.mem_cons.mp hk with rfl | hk
        · rw [e] at ew; cases ew; exact Int.le_refl _
        · exact absurd ⟨k, hk, w, ew⟩ hl
      · exact absurd ⟨c, hc, z, e⟩ hl
section
variable {n : Nat} {par : Nat → Nat} {f g G : Arr} {x : Int}
theorem Hole.ends (T : TreeOk n par) : ∀ (m p : Nat) (g : Arr), m = n - p → Hole n par f x p g → ∃ e g', LvE n par f x e g' := fun m => by
  induction m using Nat.strongRecOn with
  | ind m ih =>
    rintro p g rfl h
    by_cases c : ∃ c ∈ (List.range n).filter (fun k => decide (0 < k ∧ par k = p)), ∃ z, g c = some z
    · obtain ⟨c, hc, z, e, mn⟩ := ex_min _ c
      rw [List.mem_filter, List.mem_range, decide_eq_true_iff] at hc
      obtain ⟨cn, c0, cp⟩ := hc
      have lt := T.lt c c0 cn
      refine ih (n - c) (by omega) c _ rfl (h.down T c0 cn cp e fun k w k0 kp ek => ?_)
      refine mn k ?_ w ek
      rw [List.mem_filter, List.mem_range, decide_eq_true_iff]
      refine ⟨Classical.byContradiction fun q => ?_, k0, kp⟩
      rw [h.out k (by omega)] at ek; cases ek
    · refine ⟨p, g, h.fin fun k k0 kp => ?_⟩
      cases ek : g k with
      | none => rfl
      | some w =>
        refine absurd ⟨k, ?_, w, ek⟩ c
        rw [List.mem_filter, List.mem_range, decide_eq_true_iff]
        refine ⟨Classical.byContradiction fun q => ?_, k0, kp⟩
        rw [h.out k (by omega)] at ek; cases ek
theorem LvE.exists_ (T : TreeOk n par) (V : Valid n par f) (h : Ppl f x) : ∃ e g, LvE n par f x e g := by
  obtain ⟨p, hp⟩ := h
  exact Hole.ends T _ p _ rfl (Hole.start T V hp)
theorem Lvs.exists_ (T : TreeOk n par) : ∀ {xs : List Int} {f : Arr}, Valid n par f → xs.Nodup → (∀ x ∈ xs, Ppl f x) → ∃ g, Lvs n par f xs g
  | [], f, _, _, _ => ⟨f, Lvs.nil⟩
  | x :: xs, f, V, nd, h => by
    obtain ⟨n1, n2⟩ := List.nodup_cons.mp nd
    obtain ⟨e, g1, l⟩ := LvE.exists_ T V (h x List.mem_cons_self)
    obtain ⟨g2, l2, e2, p2⟩ := Lvs.exists_ T (xs := xs) l.val n2 fun y hy => (l.ppl y).mpr ⟨h y (List.mem_cons_of_mem _ hy), by rintro rfl; exact n1 hy⟩
    exact ⟨g2, (x, e) :: l2, by rw [List.map_cons, e2], g1, h x List.mem_cons_self, l, p2⟩
/-- at post k person z can be reached from both sides -/
def InR (par : Nat → Nat) (f g : Arr) (z : Int) (k : Nat) : Prop := (∃ i, f i = some z ∧ Above par k i) ∧ ∃ j, g j = some z ∧ Above par k j
def fstA (l : List Int) (s : Int) : Option Int := l.find? fun z => decide (s < z)
theorem fstA_some {l : List Int} {s z : Int} (h : fstA l s = some z) : z ∈ l ∧ s < z := by
  unfold fstA at h
  refine ⟨List.mem_of_find?_eq_some h, ?_⟩
  have := List.find?_some h
  exact of_decide_eq_true this
structure IsG (n : Nat) (par : Nat → Nat) (R : Nat → List Int) (G : Arr) : Prop where
  out : ∀ k, n ≤ k → G k = none
  top : G 0 = fstA (R 0) (-1)
  low : ∀ k, 0 < k → k < n → G k = (G (par k)).bind fun s => fstA (R k) s
theorem IsG.uniq (T : TreeOk n par) {R : Nat → List Int} {G1 G2 : Arr} (a : IsG n par R G1) (b : IsG n par R G2) : G1 = G2 := by
  have key : ∀ k, k < n → G1 k = G2 k := fun k => by
    induction k using Nat.strongRecOn with
    | ind k ih =>
      intro hk
      by_cases c : k = 0
      · subst c; rw [a.top, b.top]
      · have lt := T.lt k (by omega) hk
        rw [a.low k (by omega) hk, b.low k (by omega) hk, ih (par k) lt (by omega)]
  funext k
  rcases Nat.lt_or_ge k n with h | h
  · exact key k h
  · rw [a.out k h, b.out k h]
theorem anc_up (up : ∀ k z, 0 < k → G k = some z → ∃ y, G (par k) = some y ∧ y < z) {p q : Nat} (h : Above par p q) : ∀ {x : Int}, G q = some x → ∃ y, G p = some y ∧ y ≤ x ∧ (p ≠ q → y < x) := by
  induction h with
  | refl => exact fun {x} e => ⟨x, e, Int.le_refl _, fun z => absurd rfl z⟩
  | @step q h0 h1 ih =>
    intro x e
    obtain ⟨y, e1, l1⟩ := up _ _ h0 e
    obtain ⟨z, e2, l2, _⟩ := ih e1
    exact ⟨z, e2, by omega, fun _ => by omega⟩
theorem IsG.mem {R : Nat → List Int} (a : IsG n par R G) {k : Nat} {z : Int} (h : G k = some z) : z ∈ R k := by
  rcases Nat.lt_or_ge k n with l | l
  · by_cases c : k = 0
    · subst c; rw [a.top] at h; exact (fstA_some h).1
    · rw [a.low k (by omega) l] at h
      cases e : G (par k) with
      | none => rw [e] at h; cases h
      | some s => rw [e] at h; exact (fstA_some h).1
  · rw [a.out k l] at h; cases h
theorem IsG.valid (Vf : Valid n par f) {R : Nat → List Int} (a : IsG n par R G) (hR : ∀ k z, z ∈ R k → InR par f g z k) : Valid n par G := by
  have up : ∀ k z, 0 < k → G k = some z → ∃ y, G (par k) = some y ∧ y < z := fun k z k0 h => by
    rcases Nat.lt_or_ge k n with l | l
    · rw [a.low k k0 l] at h
      cases e : G (par k) with
      | none => rw [e] at h; cases h
      | some s => rw [e] at h; exact ⟨s, rfl, (fstA_some h).2⟩
    · rw [a.out k l] at h; cases h
  refine ⟨a.out, fun k z h => ?_, fun i j z hi hj => ?_, up⟩
  · obtain ⟨⟨q, hq, _⟩, _⟩ := hR k z (a.mem h)
    exact Vf.nn _ _ hq
  · obtain ⟨⟨q, hq, aq⟩, _⟩ := hR i z (a.mem hi)
    obtain ⟨⟨q', hq', aq'⟩, _⟩ := hR j z (a.mem hj)
    have := Vf.inj _ _ _ hq hq'
    subst this
    refine Classical.byContradiction fun ne => ?_
    rcases aq.comp aq' with c | c
    · obtain ⟨y, ey, _, l⟩ := anc_up up c hj
      rw [hi] at ey; cases ey
      have := l ne; omega
    · obtain ⟨y, ey, _, l⟩ := anc_up up c hi
      rw [hj] at ey; cases ey
      have := l (fun z => ne z.symm); omega
/-- the walk's state -/
structure Wst (n : Nat) (par : Nat → Nat) (R : Nat → List Int) (G : Arr) (vis : List Nat) (wl : List (Nat × Int)) : Prop where
  vnd : vis.Nodup
  vn : ∀ k ∈ vis, k < n
  vp : ∀ k ∈ vis, 0 < k → par k ∈ vis
  wnd : (wl.map (·.1)).Nodup
  wn : ∀ q ∈ wl, q.1 < n ∧ q.1 ∉ vis
  ws : ∀ q ∈ wl, (q.1 = 0 ∧ q.2 = -1) ∨ (0 < q.1 ∧ par q.1 ∈ vis ∧ G (par q.1) = some q.2)
  g0 : 0 ∈ vis → G 0 = fstA (R 0) (-1)
  gl : ∀ k ∈ vis, 0 < k → G k = (G (par k)).bind fun s => fstA (R k) s
  gn : ∀ k, k ∉ vis → G k = none
  kid : ∀ k, 0 < k → k < n → par k ∈ vis → G (par k) ≠ none → k ∈ vis ∨ k ∈ wl.map (·.1)
  root : 0 ∈ vis ∨ 0 ∈ wl.map (·.1)
theorem Wst.start (T : TreeOk n par) {R : Nat → List Int} : Wst n par R (fun _ => none) [] [(0, -1)] := by
  constructor
  · exact List.nodup_nil
  · intro k h; cases h
  · intro k h; cases h
  · exact List.nodup_cons.mpr ⟨List.not_mem_nil, List.nodup_nil⟩
  · intro q h
    rw [List.mem_singleton] at h; subst h; exact ⟨T.pos, List.not_mem_nil⟩
  · intro q h
    rw [List.mem_singleton] at h; subst h; exact .inl ⟨rfl, rfl⟩
  · intro h; cases h
  · intro k h; cases h
  · intro k _; rfl
  · intro k _ _ h; cases h
  · exact .inr List.mem_cons_self
theorem Wst.fin (T : TreeOk n par) {R : Nat → List Int} {vis : List Nat} (w : Wst n par R G vis []) : IsG n par R G := by
  have r0 : 0 ∈ vis := by
    rcases w.root with h | h
    · exact h
    · exact nomatch h
  refine ⟨fun k hk => w.gn k fun z => by have := w.vn k z; omega, w.g0 r0, fun k k0 kn => ?_⟩
  by_cases c : k ∈ vis
  · exact w.gl k c k0
  · rw [w.gn k c]
    cases e : G (par k) with
    | none => rfl
    | some s =>
      have pv : par k ∈ vis := Classical.byContradiction fun z => by rw [w.gn _ z] at e; cases e
      rcases w.kid k k0 kn pv (by rw [e]; simp) with h | h
      · exact absurd h c
      · exact nomatch h
theorem Wst.step (T : TreeOk n par) {R : Nat → List Int} {vis : List Nat} {wl : List (Nat × Int)} {p : Nat} {s : Int} (w : Wst n par R G vis (wl ++ [(p, s)])) {kids : List Nat} (knd : kids.Nodup) (hk : ∀ j, j ∈ kids ↔ j < n ∧ 0 < j ∧ par j = p) :
    (fstA (R p) s = none → Wst n par R G (p :: vis) wl) ∧
    ∀ z, fstA (R p) s = some z → Wst n par R (fset G p (some z)) (p :: vis) (wl ++ kids.map fun j => (j, z)) := by
  have pm : (p, s) ∈ wl ++ [(p, s)] := by simp
  obtain ⟨pn, pv⟩ := w.wn _ pm
  have ps := w.ws _ pm
  have wnd := w.wnd
  rw [List.map_append, List.nodup_append] at wnd
  obtain ⟨wnd1, _, wdis⟩ := wnd
  have pw : p ∉ wl.map (·.1) := fun h => wdis p h p (by simp) rfl
  have sub : ∀ q, q ∈ wl → q ∈ wl ++ [(p, s)] := fun q h => List.mem_append_left _ h
  have vp' : ∀ k ∈ p :: vis, 0 < k → par k ∈ p :: vis := fun k h k0 => by
    rcases List.mem_cons.mp h with rfl | h
    · rcases ps with ⟨a, _⟩ | ⟨_, a, _⟩
      · have a : k = 0 := a
        omega
      · exact List.mem_cons_of_mem _ a
    · exact List.mem_cons_of_mem _ (w.vp k h k0)
  have vn' : ∀ k ∈ p :: vis, k < n := fun k h => by
    rcases List.mem_cons.mp h with rfl | h
    · exact pn
    · exact w.vn k h
  have wn' : ∀ q ∈ wl, q.1 < n ∧ q.1 ∉ p :: vis := fun q h => by
    obtain ⟨a, b⟩ := w.wn q (sub q h)
    refine ⟨a, fun c => ?_⟩
    rcases List.mem_cons.mp c with c | c
    · exact pw (c ▸ List.mem_map.mpr ⟨q, h, rfl⟩)
    · exact b c
  have root' : 0 ∈ p :: vis ∨ 0 ∈ wl.map (·.1) := by
    rcases w.root with h | h
    · exact .inl (List.mem_cons_of_mem _ h)
    · rw [List.map_append, List.mem_append] at h
      rcases h with h | h
      · exact .inr h
      · have : 0 = p := by simpa using h
        exact .inl (by rw [← this]; exact List.mem_cons_self)
  have kid' : ∀ k, 0 < k → k < n → par k ∈ vis → G (par k) ≠ none → k ∈ p :: vis ∨ k ∈ wl.map (·.1) := fun k k0 kn h hG => by
    rcases w.kid k k0 kn h hG with h | h
    · exact .inl (List.mem_cons_of_mem _ h)
    · rw [List.map_append, List.mem_append] at h
      rcases h with h | h
      · exact .inr h
      · have : k = p := by simpa using h
        exact .inl (by rw [this]; exact List.mem_cons_self)
  have ppar : 0 < p → par p ≠ p := fun h => by have := T.lt p h pn; omega
  constructor
  · intro e
    refine ⟨List.nodup_cons.mpr ⟨pv, w.vnd⟩, vn', vp', wnd1, wn', fun q h => ?_, fun h => ?_, fun k h k0 => ?_, fun k h => w.gn k fun c => h (List.mem_cons_of_mem _ c), fun k k0 kn h hG => ?_, root'⟩
    · rcases w.ws q (sub q h) with a | ⟨a, b, c⟩
      · exact .inl a
      · exact .inr ⟨a, List.mem_cons_of_mem _ b, c⟩
    · rcases List.mem_cons.mp h with h | h
      · subst h
        rcases ps with ⟨_, a⟩ | ⟨a, _⟩
        · have a : s = -1 := a
          subst a; rw [e, w.gn 0 pv]
        · exact absurd a (Nat.lt_irrefl 0)
      · exact w.g0 h
    · rcases List.mem_cons.mp h with rfl | h
      · rcases ps with ⟨a, _⟩ | ⟨_, _, a⟩
        · have a : k = 0 := a
          omega
        · have a : G (par k) = some s := a
          rw [w.gn k pv, a]; exact e.symm
      · exact w.gl k h k0
    · rcases List.mem_cons.mp h with h | h
      · rw [h, w.gn p pv] at hG; exact absurd rfl hG
      · exact kid' k k0 kn h hG
  · intro z e
    have ne : ∀ k, k ∈ vis → fset G p (some z) k = G k := fun k h => fset_ne _ _ (by rintro rfl; exact pv h)
    have kp : ∀ j ∈ kids, j ∉ p :: vis := fun j h c => by
      obtain ⟨jn, j0, jp⟩ := (hk j).mp h
      rcases List.mem_cons.mp c with c | c
      · subst c; exact ppar j0 jp
      · exact pv (jp ▸ w.vp j c j0)
    have kw : ∀ j ∈ kids, j ∉ wl.map (·.1) := fun j h c => by
      obtain ⟨jn, j0, jp⟩ := (hk j).mp h
      obtain ⟨q, hq, rfl⟩ := List.mem_map.mp c
      rcases w.ws q (sub q hq) with ⟨a, _⟩ | ⟨_, b, _⟩
      · omega
      · exact pv (jp ▸ b)
    have km : (kids.map fun j => (j, z)).map (·.1) = kids := by rw [List.map_map]; simp [Function.comp_def]
    refine ⟨List.nodup_cons.mpr ⟨pv, w.vnd⟩, vn', vp', ?_, fun q h => ?_, fun q h => ?_, fun h => ?_, fun k h k0 => ?_, fun k h => ?_, fun k k0 kn h hG => ?_, ?_⟩
    · rw [List.map_append, km, List.nodup_append]
      exact ⟨wnd1, knd, fun a ha b hb => by rintro rfl; exact kw a hb ha⟩
    · rcases List.mem_append.mp h with h | h
      · exact wn' q h
      · obtain ⟨j, hj, rfl⟩ := List.mem_map.mp h
        exact ⟨((hk j).mp hj).1, kp j hj⟩
    · rcases List.mem_append.mp h with h | h
      · rcases w.ws q (sub q h) with a | ⟨a, b, c⟩
        · exact .inl a
        · exact .inr ⟨a, List.mem_cons_of_mem _ b, by rw [ne _ b]; exact c⟩
      · obtain ⟨j, hj, rfl⟩ := List.mem_map.mp h
        obtain ⟨_, j0, jp⟩ := (hk j).mp hj
        exact .inr ⟨j0, by show par j ∈ _; rw [jp]; exact List.mem_cons_self, by show fset G p (some z) (par j) = some z; rw [jp, fset_same]⟩
    · rcases List.mem_cons.mp h with h | h
      · subst h
        rcases ps with ⟨_, a⟩ | ⟨a, _⟩
        · have a : s = -1 := a
          subst a; rw [fset_same, e]
        · exact absurd a (Nat.lt_irrefl 0)
      · rw [ne 0 h]; exact w.g0 h
    · rcases List.mem_cons.mp h with rfl | h
      · rcases ps with ⟨a, _⟩ | ⟨_, b, a⟩
        · have a : k = 0 := a
          omega
        · have a : G (par k) = some s := a
          rw [fset_same, ne _ b, a]; exact e.symm
      · rw [ne k h, ne _ (w.vp k h k0)]; exact w.gl k h k0
    · rw [fset_ne _ _ (fun c => h (by rw [c]; exact List.mem_cons_self))]
      exact w.gn k fun c => h (List.mem_cons_of_mem _ c)
    · rw [List.map_append, km, List.mem_append]
      rcases List.mem_cons.mp h with h | h
      · exact .inr (.inr ((hk k).mpr ⟨kn, k0, h⟩))
      · rw [ne _ h] at hG
        rcases kid' k k0 kn h hG with h | h
        · exact .inl h
        · exact .inr (.inl h)
    · rcases root' with h | h
      · exact .inl h
      · exact .inr (by rw [List.map_append]; exact List.mem_append_left _ h)
end
end MU
end

section
set_option Elab.async false
set_option linter.all false
set_option maxRecDepth 100000
set_option maxHeartbeats 4000000
/-! Own rules 1: enumerate(tuple), match of a step, rules for tests. -/
namespace PySem
theorem meets_enumerate_new1 {v : Value} {o : Obj} {H : Heap → Prop} (B : Begins v o H) :
    Meets (Builtin.«enumerate.__new__» ⟨[.type "enumerate", v], []⟩) (fun _ R s => H s.heap ∧
      R (.ok (.ret (.ref (s.heap.push o).objs.size))) { s with heap := (s.heap.push o).push { cls := .type "enumerate", data := .fields #[.none, .bool false, .ref s.heap.objs.size, rawInt 0, .none, .none] } }) :=
  .of_wp fun prog w A R s h => by
    obtain ⟨hp, g, d, tk, os⟩ := s; obtain ⟨h1, h⟩ := h
    have hsub := sub_enumerate
    have q1 : ∀ {A' : Around} {E : Value → Shared → Prop} {Q : Value → Shared → Prop}, Q (.ref hp.objs.size) ⟨hp.push o, g, d, tk, os⟩ → wpAny (model prog w) A' (pyIter v) Q E ⟨hp, g, d, tk, os⟩ :=
      fun q => B.iter prog w _ _ ⟨hp, g, d, tk, os⟩ _ h1 q
    wp_walk using q1
    refine wpAny_stack_any fun st => wpAny_pure ?_
    split
    · rename_i c _ _ _ _ _
      cases (c == Value.type "enumerate")
      · wp_walk using q1
        exact ⟨_, rfl, h⟩
      · wp_walk using q1
        exact ⟨_, rfl, h⟩
    · wp_walk using q1
      exact ⟨_, rfl, h⟩
section
variable {prog : Program} {w : World} {A : Around} {E : Value → Shared → Prop} {s : Shared}
theorem enum_begins1 {v : Value} {o : Obj} {H : Heap → Prop} {Q : Value → Shared → Prop} (B : Begins v o H) (h1 : H s.heap)
    (h : ∀ h', IsEnum h' (s.heap.objs.size + 1) s.heap.objs.size 0 .none → h'.get? s.heap.objs.size = some o → h'.objs.size = s.heap.objs.size + 2 →
      (∀ b o, s.heap.get? b = some o → h'.get? b = some o) → Q (.ref (s.heap.objs.size + 1)) { s with heap := h' }) :
    wpAny (model prog w) A (call (.type "enumerate") [v]) Q E s := by
  refine callType_new F.called_enumerate (by decide) (F.typeCall_enumerate_1 _) (F.newCall_enumerate_1 _) (fun obj => F.args_object_init_2 obj _) F.entry_enumerate_new
    (meets_enumerate_new1 B) ⟨h1, ?_⟩
  have hz : (s.heap.push o).objs.size = s.heap.objs.size + 1 := Heap.size_push ..
  show _ ∧ _
  rw [hz]
  have he : IsEnum ((s.heap.push o).push { cls := .type "enumerate", data := .fields #[.none, .bool false, .ref s.heap.objs.size, rawInt 0, .none, .none] }) (s.heap.objs.size + 1) s.heap.objs.size 0 .none := by
    have := Heap.get?_push_size (s.heap.push o) (o := { cls := .type "enumerate", data := .fields #[.none, .bool false, .ref s.heap.objs.size, rawInt 0, .none, .none] }) rfl
    rw [hz] at this; exact this
  refine ⟨⟨_, he, rfl⟩, h _ he (Heap.get?_push_of_some _ (Heap.get?_push_size _ B.free)) (by rw [Heap.size_push, hz]) fun b o x => Heap.get?_push_of_some _ (Heap.get?_push_of_some _ x)⟩
end
end PySem
namespace L3
open PySem PySem.Spec PyProof.Rows L2
/-- the tuple at a, each item in a new pair with its place -/
def IteT (K : PySem.W.Frag) (a : Addr) : It :=
  ⟨fun i H => ∃ (xs : List V) (x : V), SqT K H a xs ∧ xs[i]? = some x, fun i H v H' => ∃ T x, v = .ref T ∧ H T = none ∧ H' = upd H T (.tup [.int (i : Nat), x]) ∧ ∀ xs, SqT K H a xs → xs[i]? = some x, fun i H => ∃ xs : List V, SqT K H a xs ∧ xs.length ≤ i⟩
theorem turn_enumT {P : Program} {w : World} {K : PySem.W.Frag} {elts : List Expr} {kk : Nat} {tpos : Pos} (a e it : Addr) (hai : a ≠ it) (hae : a ≠ e) :
    Turn P w K (.Tuple elts kk tpos) (IteT K a) [e, it] e (fun i h => (∃ old, IsEnum h e it ((i : Nat) : Int) old) ∧ h.IsTupleIter it a i ∧ e ≠ it) where
  mem := by simp
  obj := fun i h st b hb => by
    obtain ⟨⟨old, he⟩, ⟨o, ho, hc, hd⟩, _⟩ := st
    have e' : b = e ∨ b = it := by simpa using hb
    rcases e' with z | z
    · rw [z]; exact ⟨_, he, fun v q => nomatch q⟩
    · rw [z]; exact ⟨o, ho, fun v q => by rw [hd] at q; cases q⟩
  keep := fun i h h' st k => let ⟨⟨old, he⟩, hi, hne⟩ := st; ⟨⟨old, k e (by simp) _ he⟩, hi.at fun o q => k it (by simp) o q, hne⟩
  item := by
    intro X hP hw hK hc i pins s σ H E I hf st hg
    subst hP hw hK
    obtain ⟨⟨old, he⟩, hit, hne⟩ := st
    obtain ⟨xs, x, hq, hx⟩ := hg
    obtain ⟨its, rv, p, hz⟩ := I.tuple hq
    obtain ⟨u, hu, ru⟩ := rv.get hx
    have hel : e < s.heap.objs.size := Heap.lt_size he
    have hil : it < s.heap.objs.size := by obtain ⟨_, q, _⟩ := hit; exact Heap.lt_size q
    have hlt : i < its.toArray.size := by
      have := rv.length
      have := (List.getElem?_eq_some_iff.mp hx).1
      simp only [List.size_toArray]; omega
    refine wpAny_pyNext_enum_itemC (Draws.tuple (show X.A.in1.handled = none from I.ok.hd hc) it a hai its.toArray) he ⟨hit, (show s.heap.IsTuple a its.toArray from p)⟩ hlt hne (by simp; exact ⟨hne, fun z => hae z.symm⟩) fun x' h' tk hP ho hst' hT hsz hk => ?_
    have hx' : x' = u := by
      have h1 : its.toArray[i]? = some x' := hP
      have h2 : its.toArray[i]? = some u := by simpa using hu
      rw [h1] at h2; exact Option.some.inj h2
    subst hx'
    refine ⟨_, rfl, wpAny_letOwnedTupleGo_enum (s := { s with heap := h', toks := tk + 1 }) ho fun h'' he' sb => ?_⟩
    have hT2 : h''.get? s.heap.objs.size = some { cls := .type "tuple", data := .seq #[.int i tk, x'] } := (sb.2 _ (Nat.ne_of_gt hel)).trans hT
    have new : ObjOk X.prog X.w (upd H s.heap.objs.size (.tup [.int (i : Nat), x])) h'' s.heap.objs.size (.tup [.int (i : Nat), x]) :=
      ⟨by show 2 ≤ sizeLine; decide, [.int i tk, x'], .cons ⟨_, rfl⟩ (.cons ru .nil), ⟨_, hT2, rfl, _, rfl⟩⟩
    have I1 : Inv X pins σ (upd H s.heap.objs.size (.tup [.int (i : Nat), x])) { s with heap := h'', toks := tk + 1 } :=
      I.turnedNew (ch := [e, it]) (fun b ob hb q => (sb.2 b (fun z => hb (by simp [z]))).trans (hk b ob (fun z => hb (by simp [z])) (fun z => hb (by simp [z])) q)) hf (Nat.le_refl _) new
    refine ⟨.ref s.heap.objs.size, _, I1, rfl, ⟨_, x, rfl, I.hok.fresh (Nat.le_refl _), rfl, fun ys hy => by rw [I.tuple_inj hy hq]; exact hx⟩, ⟨⟨x', ?_⟩, hst'.1.at fun o q => (sb.2 it (Ne.symm hne)).trans q, hne⟩, fun b hb => ?_⟩
    · have e1 : ((i + 1 : Nat) : Int) = (i : Int) + 1 := by omega
      rw [e1]; exact he'
    · have hb' : b < s.heap.objs.size := by
        have e' : b = e ∨ b = it := by simpa using hb
        rcases e' with z | z
        · rw [z]; exact hel
        · rw [z]; exact hil
      rw [upd_ne (Nat.ne_of_lt hb')]
      exact (hf b hb).1
  done := by
    intro X hP hw hK hc i pins s σ H E I hf st hg
    subst hP hw hK
    obtain ⟨⟨old, he⟩, hit, hne⟩ := st
    obtain ⟨xs, hq, hx⟩ := hg
    obtain ⟨its, rv, p, hz⟩ := I.tuple hq
    obtain ⟨f0, f1, f2, f3, f4, f5⟩ := hf it (by simp)
    have hl := rv.length
    have hen : its.toArray[i]? = none := by simp; omega
    have hT : s.TypeIs (.ref e) "enumerate" := ⟨_, he, rfl⟩
    unfold pyNext
    refine wpAny_bind (wpAny_attempt (wpAny_callSpecial?_slot (name := Str.ofString "__next__") hT F.slot_enumerate_next
      (wpAny_call_entry F.slot_enumerate_next hT F.entry_enumerate_next ?_ (F.args_enumerate_next_1 _))))
    show wpAny _ _ (field (.ref e) 2 >>= _) _ _ _
    refine wpAny_bind (wpAny_field he rfl (x := .ref it) rfl ?_)
    refine wpAny_bind (wpAny_nextOf_tuple_end (show X.A.in1.handled = none from I.ok.hd hc) hit (show s.heap.IsTuple a its.toArray from p) hen fun h' x he' hx' => ?_)
    obtain ⟨o, ho, hc'⟩ := hx'
    refine wpAny_bind (wpAny_isInstance (T := "StopIteration") (b := true) ⟨o, ho, hc'⟩ isSubtype_stop ?_)
    exact wpAny_pure ⟨rfl, I.turned (t' := s.toks) (fun b o hb q => he' b o hb q) f0 f1 f3 f4 f5⟩
  self := fun A i s Q E st h => let ⟨⟨_, he⟩, _⟩ := st; wpAny_pyIter_enum he h
def iEnumT (K : PySem.W.Frag) (ta : TA) : TI := fun σ H R => ta σ H fun vs H1 => ∃ a xs, vs = [.ref a] ∧ SqT K H1 a xs ∧ R (IteT K a) H1
theorem pi_enumT {X : Cx} {e : Expr} {ta : TA} {p pos tpos : Pos} {elts : List Expr} {kk : Nat} (hg : Gl X "enumerate") (hm : X.mg "enumerate" = none) (ha : PA X [e] ta) (hs : starEach [e] X.env = [(false, eval e X.env)] := by rfl) :
    PI X (.Tuple elts kk tpos) (.Call (.Name "enumerate" p) [e] [] pos) (iEnumT X.K ta) := by
  refine ⟨fun pins s σ H R I h => ?_⟩
  refine Call_ (ld_blt I hg hm boot_enumerate (PyProof.Rows.callWith_type1 (thn (ha.run pos pins s σ H _ I h) fun us s1 ⟨vs, H1, I1, r1, q1⟩ => ?_) hs rfl))
  obtain ⟨a, xs, ex, hq, q⟩ := q1
  subst ex
  cases r1 with
  | cons r rr =>
    cases rr
    cases r
    obtain ⟨its, rv, p', hz⟩ := I1.tuple hq
    have hal : a < s1.heap.objs.size := by obtain ⟨_, q, _⟩ := p'; exact Heap.lt_size q
    refine enum_begins1 (begins_tuple a its.toArray) (show s1.heap.IsTuple a its.toArray from p') fun h' he hit hsz hk => wpAny_pyIter_enum he ?_
    have I2 : Inv X pins σ H1 { s1 with heap := h' } := I1.kept (t' := s1.toks) hk
    refine ⟨s1.heap.objs.size + 1, [s1.heap.objs.size + 1, s1.heap.objs.size], _, _, H1, rfl, I2, turn_enumT a (s1.heap.objs.size + 1) s1.heap.objs.size (Nat.ne_of_lt hal) (Nat.ne_of_lt (Nat.lt_succ_of_lt hal)), ⟨⟨.none, he⟩, ⟨_, hit, rfl, rfl⟩, Nat.succ_ne_self _⟩, fun b hb => ?_, q⟩
    have e' : b = s1.heap.objs.size + 1 ∨ b = s1.heap.objs.size := by simpa using hb
    have hle : s1.heap.objs.size ≤ b := by
      rcases e' with z | z
      · rw [z]; exact Nat.le_add_right _ _
      · rw [z]; exact Nat.le_refl _
    exact I1.fpOk hle (I1.hok.fresh hle)
theorem walk_enumT {K : PySem.W.Frag} {a : Addr} {xs : List V} : Walk (IteT K a) xs.length (fun H => SqT K H a xs) (YPair (fun i => some (.int (i : Nat))) (fun i => xs[i]?)) := by
  refine ⟨fun i _ hi q => ⟨xs, xs[i], q, by simp [hi]⟩, fun _ q => ⟨xs, q, Nat.le_refl _⟩, fun i H v H' _ q y => ?_⟩
  obtain ⟨T, x, h1, h2, h3, h4⟩ := y
  exact ⟨T, .int (i : Nat), x, h1, h2, h3, rfl, h4 xs q⟩
end L3
end

section
set_option Elab.async false
set_option linter.all false
set_option maxRecDepth 100000
set_option maxHeartbeats 4000000
namespace L3
open PySem PySem.Spec PyProof.Rows L2
/-! match of a tuple of two whose first is the text a, or of a tuple of three -/
def tMatch (K : PySem.W.Frag) (a : Str) (i i' j : Nat) (te : TE) (t1 t2 : TS) : TS := fun D σ H => te σ H fun v H1 => ∃ p, v = .ref p ∧
  ((∃ x, SqT K H1 p [.str a, x] ∧ t1 D (σ.set i (some x)) H1) ∨ (∃ z x y, SqT K H1 p [z, x, y] ∧ t2 D ((σ.set i' (some x)).set j (some y)) H1))
theorem bind_one {X : Cx} {pins : List (Addr × Obj)} {σ : L2.St} {H : Hp} {s : Shared} {i : Nat} {x : Str} {v : V} {u : Value} {Q : Unit → Shared → Prop} (I : Inv X pins σ H s) (hN : X.N.Nodup) (hi : X.N[i]? = some x) (hx : Loc X.env.scope x) (r : RelV v u)
    (hf : X.fn x = true ∨ X.env.scope.names.lookup x = some .local) (h : ∀ s', Inv X pins (σ.set i (some v)) H s' → Q () s') : wpAny (model X.prog X.w) X.A (bindName X.env x u) Q X.xe s :=
  wpAny_bindName (store_ok I hN hi hx r h hf)
theorem ps_match {X : Cx} {a x x' y : Str} {i i' j : Nat} {subj : Expr} {te : TE} {b1 b2 : List Stmt} {t1 t2 : TS} {k0 : Nat} {c1 v1 p1 s1 q0 q1 q2 s2 pos : Pos} (hc : X.calm = true) (hN : X.N.Nodup)
    (hs : PE X subj te) (hi : X.N[i]? = some x) (hx : Loc X.env.scope x) (hi' : X.N[i']? = some x') (hx' : Loc X.env.scope x') (hj : X.N[j]? = some y) (hy : Loc X.env.scope y) (h1 : PSs X b1 t1) (h2 : PSs X b2 t2)
    (hf : X.fn x = true ∨ X.env.scope.names.lookup x = some .local := by first | exact .inl rfl | exact .inr rfl | assumption) (hf' : X.fn x' = true ∨ X.env.scope.names.lookup x' = some .local := by first | exact .inl rfl | exact .inr rfl | assumption)
    (hfy : X.fn y = true ∨ X.env.scope.names.lookup y = some .local := by first | exact .inl rfl | exact .inr rfl | assumption) :
    PS X (.Match subj [⟨.MatchSequence [.MatchValue (.Constant (.str a) k0 c1) v1, .MatchAs none (some x) p1] s1, none, b1⟩, ⟨.MatchSequence [.MatchAs none none q0, .MatchAs none (some x') q1, .MatchAs none (some y) q2] s2, none, b2⟩] pos) (tMatch X.K a i i' j te t1 t2) := by
  refine ⟨fun pins s σ H D I h => ?_⟩
  refine wpAny_Match (thn (hs.run pins s σ H _ I h) fun v s3 ⟨w, H1, I1, r1, p, ep, q⟩ => ?_)
  subst ep
  obtain rfl : v = Value.ref p := r1
  rcases q with ⟨xv, hq, q⟩ | ⟨zv, xv, yv, hq, q⟩
  · obtain ⟨its, rv, ht, hz⟩ := I1.tuple hq
    obtain ⟨u1, u2, rfl, ru1, ru2⟩ := vals2 rv
    obtain ⟨tk, rfl⟩ := ru1
    refine wpAny_matchCases_cons (matchSeq_tuple_hit ht (by show ((2 : Nat) : Int) < 2 ^ 63; decide) rfl ?_)
    refine unpackItems_tuple (items := #[.str a tk, u2]) (I.ok.hd hc) ht fun h' hx2 => ?_
    have I2 : Inv X pins σ H1 { s3 with heap := h', toks := s3.toks + 1 + 1 } := I1.kept (t' := s3.toks + 1 + 1) fun b o e => hx2 b o (Nat.ne_of_lt (Heap.lt_size e)) e
    refine wpAny_matchEach_cons (wpAny_matchPattern_Value (Calls.Constant_str ?_))
    refine eq_str ?_
    rw [show (a == a) = true from beq_self_eq_true a]
    refine wpAny_truthy_bool ?_
    rw [if_pos rfl]
    refine wpAny_matchEach_cons (wpAny_matchPattern_Capture (wpAny_matchEach_nil ?_))
    have I3 := I2.tok (s3.toks + 1 + 1 + 1)
    refine wpAny_assignInOrder_more (bind_one I3 hN hi hx ru2 hf fun s' I' => wpAny_assignInOrder_none ?_)
    exact h1.run pins s' _ H1 D I' q
  · obtain ⟨its, rv, ht, hz⟩ := I1.tuple hq
    obtain ⟨u1, u2, u3, rfl, ru1, ru2, ru3⟩ : ∃ u1 u2 u3, its = [u1, u2, u3] ∧ RelV zv u1 ∧ RelV xv u2 ∧ RelV yv u3 := by
      cases rv with
      | cons a1 b1 => cases b1 with
        | cons a2 b2 => cases b2 with
          | cons a3 b3 => cases b3; exact ⟨_, _, _, rfl, a1, a2, a3⟩
    refine wpAny_matchCases_cons (matchSeq_tuple_miss ht (by show ((3 : Nat) : Int) < 2 ^ 63; decide) (by show ¬ (3 : Nat) = 2; decide) ?_)
    have I2 := I1.tok (s3.toks + 1 + 1)
    refine wpAny_matchCases_cons (matchSeq_tuple_hit ht (by show ((3 : Nat) : Int) < 2 ^ 63; decide) rfl ?_)
    refine unpackItems_tuple (items := #[u1, u2, u3]) (I.ok.hd hc) ht fun h' hx2 => ?_
    have I3 : Inv X pins σ H1 { s3 with heap := h', toks := s3.toks + 1 + 1 + 1 + 1 } := I1.kept (t' := s3.toks + 1 + 1 + 1 + 1) fun b o e => hx2 b o (Nat.ne_of_lt (Heap.lt_size e)) e
    refine wpAny_matchEach_cons (wpAny_matchPattern_Capture (wpAny_matchEach_cons (wpAny_matchPattern_Capture (wpAny_matchEach_cons (wpAny_matchPattern_Capture (wpAny_matchEach_nil ?_))))))
    refine wpAny_assignInOrder_more (bind_one I3 hN hi' hx' ru2 hf' fun s' I' => wpAny_assignInOrder_more (bind_one I' hN hj hy ru3 hfy fun s'' I'' => wpAny_assignInOrder_none ?_))
    exact h2.run pins s'' _ H1 D I'' q
/-! ### with, of an instance of an own class -/
def tWith (Ce : Addr) (spE spX : Sp) (i : Nat) (te : TE) (tb : TS) : TS := fun D σ H => te σ H fun v H1 => ∃ p dx fs, v = .ref p ∧ H1 p = some (.ins Ce dx fs) ∧
  spE [.ref p] H1 (fun y H2 => tb ⟨fun σ' H3 => spX [.ref p, .non, .non, .non] H3 (fun _ H4 => D.nx σ' H4) E0, fun r H3 => spX [.ref p, .non, .non, .non] H3 (fun _ H4 => D.rt r H4) E0,
    fun σ' H3 => spX [.ref p, .non, .non, .non] H3 (fun _ H4 => D.bk σ' H4) E0, fun σ' H3 => spX [.ref p, .non, .non, .non] H3 (fun _ H4 => D.ct σ' H4) E0⟩ (σ.set i (some y)) H2) E0
theorem ps_with {X : Cx} {ctx : Expr} {y : Str} {py pos : Pos} {body : List Stmt} {te : TE} {tb : TS} {i k : Nat} {C fe fx : Addr} {fdE fdX : FuncData} {psE psX : List Str} {spE spX : Sp} (hN : X.N.Nodup) (hi : X.N[i]? = some y) (hy : Loc X.env.scope y) (hn : ∀ e s, ¬ X.xe e s)
    (he : PE X ctx te) (hE : Meth X.K C "__enter__" fe) (hX : Meth X.K C "__exit__" fx) (FE : FnOk X.prog X.w X.K X.mg X.base CX0 k fe fdE psE spE) (FX : FnOk X.prog X.w X.K X.mg X.base CX0 k fx fdX psX spX) (bE : Binds X.K fdE psE []) (bX : Binds X.K fdX psX [])
    (hr : Room k X.A) (hb : PSs X body tb) (hf : X.fn y = true ∨ X.env.scope.names.lookup y = some .local := by first | exact .inl rfl | exact .inr rfl | assumption) :
    PS X (.With [⟨ctx, some (.Name y py)⟩] body pos) (tWith C spE spX i te tb) := by
  refine ⟨fun pins s σ H D I h => ?_⟩
  refine PySem.W.kw_execN (thn (he.run pins s σ H _ I h) fun v s1 ⟨w, H1, I1, r1, p, dx, fs, ep, hp, q⟩ => ?_)
  subst ep
  obtain rfl : v = Value.ref p := r1
  obtain ⟨mA, O, _⟩ := ins_get I1.hok hp
  obtain ⟨od, J, _⟩ := O.look
  obtain ⟨m, hF⟩ := I1.fr
  refine PySem.W.kw_inN hF I1.ok.mod.kin J hE.at_ hE.fn hX.at_ hX.fn ?_
  refine wpAny_mono (run_fn (us := [.ref p]) (vs := [.ref p]) FE hr bE .nil pass0 I1 (.cons rfl .nil) q) (fun u s2 ⟨z, H2, I2, r2, q2⟩ => ?_) fun _ _ x => x
  refine wpAny_mono (store_ok (E := X.xe) (Q := fun _ s3 => L2.Inv X pins (List.set σ i (some z)) H2 s3) I2 hN hi hy r2 (fun s3 I3 => I3) hf) (fun _ s3 I3 => ?_) fun _ _ x => (hn _ _ x).elim
  refine wpAny_mono (hb.run pins s3 _ H2 _ I3 q2) (fun f s4 q4 => ?_) fun _ _ x => (hn _ _ x).elim
  have fin : ∀ {σ4 : L2.St} {H4 : Hp} {R : Hp → Prop} {Q' : Shared → Prop}, Inv X pins σ4 H4 s4 → spX [.ref p, .non, .non, .non] H4 (fun _ H5 => R H5) E0 → (∀ H5 s5, Inv X pins σ4 H5 s5 → R H5 → Q' s5) →
      wpAny (model X.prog X.w) X.A (call (.ref fx) [.ref p, .none, .none, .none]) (fun _ s5 => Q' s5) X.xe s4 := fun {σ4 H4 R Q'} I4 hsp hQ =>
    thn (run_fn (us := [.ref p, .none, .none, .none]) (vs := [.ref p, .non, .non, .non]) FX hr bX .nil pass0 I4 (.cons rfl (.cons rfl (.cons rfl (.cons rfl .nil)))) hsp) fun u s5 ⟨_, H5, I5, _, q5⟩ => hQ H5 s5 I5 q5
  cases f with
  | next =>
    obtain ⟨σ4, H4, I4, q4⟩ := q4
    exact fin I4 q4 fun H5 s5 I5 q5 => ⟨σ4, H5, I5, q5⟩
  | brk =>
    obtain ⟨σ4, H4, I4, q4⟩ := q4
    exact fin I4 q4 fun H5 s5 I5 q5 => ⟨σ4, H5, I5, q5⟩
  | cont =>
    obtain ⟨σ4, H4, I4, q4⟩ := q4
    exact fin I4 q4 fun H5 s5 I5 q5 => ⟨σ4, H5, I5, q5⟩
  | ret v =>
    obtain ⟨rv, σ4, H4, I4, rr, q4⟩ := q4
    exact fin I4 q4 fun H5 s5 I5 q5 => ⟨rv, σ4, H5, I5, rr, q5⟩
end L3
end

section
set_option Elab.async false
set_option linter.all false
set_option maxRecDepth 100000
set_option maxHeartbeats 4000000
namespace L3
open PySem PySem.Spec PyProof.Rows L2 PySem.W
/-! == and != of data of one type; min of a list of pairs -/
instance : Datum (Option Int) where
  toD
    | none => .none
    | some i => .int i
  plain a := by cases a <;> rfl
  eqv a b := by
    cases a <;> cases b
    · simp only [PyData.eqv]; rfl
    · simp only [PyData.eqv]; rfl
    · simp only [PyData.eqv]; rfl
    · rename_i x y
      simp only [PyData.eqv]
      rw [Bool.eq_iff_iff]
      simp
  depth := 0
  depth_le a := by cases a <;> exact Nat.le_refl _
section
variable {X : Cx} {pins : List (Addr × Obj)} {σ : L2.St} {H : Hp} {s : Shared} {α : Type} [DecidableEq α] [Datum α]
theorem holds_of (I : Inv X pins σ H s) {v : V} {u : Value} {a : α} (h : Dp X.K H v (Datum.toD a)) (r : RelV v u) : Holds s.heap u a := Dp.reads I _ _ _ h r
def rEqP (α : Type) [DecidableEq α] [Datum α] (K : PySem.W.Frag) : R2 := fun x y H Q => ∃ a b : α, Dp K H x (Datum.toD a) ∧ Dp K H y (Datum.toD b) ∧ Q (.bl (decide (a = b))) H
def rNeP (α : Type) [DecidableEq α] [Datum α] (K : PySem.W.Frag) : R2 := fun x y H Q => ∃ a b : α, Dp K H x (Datum.toD a) ∧ Dp K H y (Datum.toD b) ∧ Q (.bl (decide (a ≠ b))) H
theorem op_eqP (hu : X.A.units + Datum.depth α < cLine) : OpR X (compareOp .Eq) (rEqP α X.K) := by
  intro pins s σ H x y v u Q I rx ry h
  obtain ⟨a, b, ha, hb, q⟩ := h
  exact eq_datum (holds_of I ha rx) (holds_of I hb ry) hu ⟨.bl _, H, I, rfl, q⟩
theorem op_neP (hu : X.A.units + Datum.depth α < cLine) : OpR X (compareOp .NotEq) (rNeP α X.K) := by
  intro pins s σ H x y v u Q I rx ry h
  obtain ⟨a, b, ha, hb, q⟩ := h
  exact ne_datum (holds_of I ha rx) (holds_of I hb ry) hu ⟨.bl _, H, I, rfl, q⟩
theorem DpAll.mapInt {K : PySem.W.Frag} {H : Hp} : ∀ ns : List Int, DpAll K H (ns.map V.int) (ns.map Datum.toD)
  | [] => .nil
  | n :: ns => .cons (.int n) (DpAll.mapInt ns)
def oV : Option Int → V
  | none => .non
  | some i => .int i
theorem dp_oV {K : PySem.W.Frag} {H : Hp} (o : Option Int) : Dp K H (oV o) (Datum.toD o) := by
  cases o with
  | none => exact .non
  | some i => exact .int i
theorem DpAll.mapOpt {K : PySem.W.Frag} {H : Hp} : ∀ os : List (Option Int), DpAll K H (os.map oV) (os.map Datum.toD)
  | [] => .nil
  | o :: os => .cons (dp_oV o) (DpAll.mapOpt os)
/-- a list of ints at a -/
theorem dp_ints {K : PySem.W.Frag} {H : Hp} {a : Addr} {ns : List Int} (h : SqL K H a (ns.map V.int)) : Dp K H (.ref a) (Datum.toD ns) := .lst h (DpAll.mapInt ns)
theorem dp_opts {K : PySem.W.Frag} {H : Hp} {a : Addr} {os : List (Option Int)} (h : SqT K H a (os.map oV)) : Dp K H (.ref a) (Datum.toD (Tup.mk os)) := .tup h (DpAll.mapOpt os)
end
theorem lt_pair (p q : Int × Int) : DatumOrd.lt p q = (if p.1 = q.1 then decide (p.2 < q.2) else decide (p.1 < q.1)) := rfl
theorem minOf_fst : ∀ (xs : List (Int × Int)) (x : Int × Int), (∀ y ∈ x :: xs, (minOf x xs).1 ≤ y.1) ∧ minOf x xs ∈ x :: xs
  | [], x => ⟨fun y hy => by rw [List.mem_singleton.mp hy]; exact Int.le_refl _, List.mem_cons_self⟩
  | z :: xs, x => by
    obtain ⟨h1, h2⟩ := minOf_fst xs (if DatumOrd.lt z x = true then z else x)
    have e : minOf x (z :: xs) = minOf (if DatumOrd.lt z x = true then z else x) xs := rfl
    rw [e]
    have hm := h1 _ List.mem_cons_self
    have hx : (if DatumOrd.lt z x = true then z else x).1 ≤ x.1 ∧ (if DatumOrd.lt z x = true then z else x).1 ≤ z.1 := by
      rw [lt_pair]
      by_cases e1 : z.1 = x.1
      · rw [if_pos e1]
        split <;> omega
      · rw [if_neg e1]
        by_cases l : z.1 < x.1
        · rw [decide_eq_true l, if_pos rfl]; omega
        · rw [decide_eq_false l, if_neg Bool.false_ne_true]; omega
    refine ⟨fun y hy => ?_, ?_⟩
    · rcases List.mem_cons.mp hy with rfl | hy
      · omega
      · rcases List.mem_cons.mp hy with rfl | hy
        · omega
        · exact h1 y (List.mem_cons_of_mem _ hy)
    · rcases List.mem_cons.mp h2 with e2 | e2
      · rw [e2]
        split
        · exact List.mem_cons_of_mem _ List.mem_cons_self
        · exact List.mem_cons_self
      · exact List.mem_cons_of_mem _ (List.mem_cons_of_mem _ e2)
/-- min(l), l a list of pairs of whole numbers -/
def rMinP (K : PySem.W.Frag) : List V → Hp → VK → Prop := fun vs H Q => ∃ (a : Addr) (ps : List Addr) (xs : List (Int × Int)), vs = [.ref a] ∧ SqL K H a (ps.map V.ref) ∧ Paired (fun (p : Addr) (x : Int × Int) => H p = some (.tup [.int x.1, .int x.2])) ps xs ∧ 0 < xs.length ∧
  ∀ (i : Nat) (p : Addr) (x : Int × Int), ps[i]? = some p → xs[i]? = some x → (∀ y ∈ xs, x.1 ≤ y.1) → Q (.ref p) H
theorem paired_at {α β : Type} {F : α → β → Prop} : ∀ {xs : List α} {ys : List β}, Paired F xs ys → ∀ {i : Nat} {y : β}, ys[i]? = some y → ∃ x, xs[i]? = some x ∧ F x y
  | _, _, .nil, _, _, h => by simp at h
  | _, _, .cons r _, 0, _, h => by simp at h; subst h; exact ⟨_, rfl, r⟩
  | _, _, .cons _ t, i + 1, _, h => by
    obtain ⟨x, e, f⟩ := paired_at t (i := i) (by simpa using h)
    exact ⟨x, by simpa using e, f⟩
section
variable {X : Cx}
theorem holdAll_pairs {pins : List (Addr × Obj)} {σ : L2.St} {H : Hp} {s : Shared} (I : Inv X pins σ H s) : ∀ {ps : List Addr} {xs : List (Int × Int)} {us : List Value}, Vals (ps.map V.ref) us →
    Paired (fun (p : Addr) (x : Int × Int) => H p = some (.tup [.int x.1, .int x.2])) ps xs → HoldAll s.heap us xs
  | [], [], _, r, _ => by cases r; exact .nil
  | [], _ :: _, _, _, p => by cases p
  | _ :: _, [], _, _, p => by cases p
  | p :: ps, x :: xs, _, r, q => by
    cases q with
    | cons hp q =>
      cases r with
      | cons r1 r2 =>
        exact HoldAll.cons (holds_of I (Dp.tup (SqT.of hp) (.cons (.int x.1) (.cons (.int x.2) .nil))) r1) (holdAll_pairs I r2 q)
theorem cr_minP (hc : X.calm = true) (hu : X.A.units + 2 < cLine) : CallR X (.builtin "min") (rMinP X.K) := by
  intro pins s σ H vs us Q I r h
  obtain ⟨a, ps, xs, rfl, hs, pr, h0, q⟩ := h
  obtain ⟨u, rfl, r1⟩ := vals1 r
  obtain rfl : u = Value.ref a := r1
  obtain ⟨its, rv, pl, hz⟩ := I.list hs
  have HA : HoldAll s.heap its.toArray.toList xs := holdAll_pairs I rv pr
  cases xs with
  | nil => exact absurd h0 (Nat.lt_irrefl 0)
  | cons x xs =>
    refine min_list_datum (I.ok.hd hc) pl.isList HA (by show X.A.units + 1 + (max 0 0 + 1) < cLine; simpa using hu) fun i v h' tk hi hh hk => ?_
    obtain ⟨y, hy, hv⟩ := HoldAll.at HA (i := i) (v := v) (by simpa using hi)
    have Ik : Inv X pins σ H { s with heap := h', toks := tk } := I.kept hk
    obtain ⟨hm1, hm2⟩ := minOf_fst xs x
    have e : y = minOf x xs := by
      obtain ⟨l, c, d, ev, ht, hc1, hd1⟩ := pair_of_holds (Holds.keeps hk hv)
      obtain ⟨l', c', d', ev', ht', hc2, hd2⟩ := pair_of_holds hh
      rw [ev] at ev'
      cases ev'
      obtain ⟨o1, ho1, _, n1, hdd1⟩ := ht
      obtain ⟨o2, ho2, _, n2, hdd2⟩ := ht'
      rw [ho1] at ho2
      cases ho2
      rw [hdd1] at hdd2
      injection hdd2 with e1 _
      have e2 : c = c' ∧ d = d' := by simpa using e1
      obtain ⟨rfl, rfl⟩ := e2
      obtain ⟨t1, q1⟩ := int_of_holds hc1
      obtain ⟨t2, q2⟩ := int_of_holds hc2
      obtain ⟨t3, q3⟩ := int_of_holds hd1
      obtain ⟨t4, q4⟩ := int_of_holds hd2
      rw [q1] at q2
      rw [q3] at q4
      injection q2 with z1 _
      injection q4 with z2 _
      exact Prod.ext z1 z2
    subst e
    obtain ⟨p, hp, _⟩ := paired_at pr hy
    refine ⟨.ref p, H, Ik, ?_, q i p _ hp hy hm1⟩
    have hpv : (ps.map V.ref)[i]? = some (V.ref p) := by rw [List.getElem?_map, hp]; rfl
    obtain ⟨u2, hu2, ru2⟩ := rv.get hpv
    have hi' : its[i]? = some v := by simpa using hi
    rw [hi'] at hu2
    rw [Option.some.inj hu2]
    exact ru2
end
end L3
end

section
set_option Elab.async false
set_option linter.all false
set_option maxRecDepth 100000
set_option maxHeartbeats 4000000
/-! zip(xs, ys, strict=True) over two lists of one length -/
namespace PySem
namespace F
theorem typeCall_zip_strict (a b c : Value) : checkTypeCall "zip" ⟨[a, b], [(Str.ofString "strict", c)]⟩ = pure () := by kernel_rfl
theorem newCall_zip_strict (a b c : Value) : checkBuiltinCall "zip.__new__" ⟨[.type "zip", a, b], [(Str.ofString "strict", c)]⟩ = pure () := by kernel_rfl
theorem args_object_init_strict (obj a b c : Value) : argsOk "object.__init__" ⟨[obj, a, b], [(Str.ofString "strict", c)]⟩ := by unfold argsOk; kernel_rfl
end F
abbrev IsZipS (h : Heap) (z TI TO : Addr) (f0 : Value) : Prop :=
  h.get? z = some { cls := .type "zip", dict := none, data := .fields #[f0, .bool false, .bool true, .ref TI, .ref TO], slots := #[] }
section
variable {prog : Program} {w : World} {A : Around} {E : Value → Shared → Prop} {s : Shared}
theorem nextOrEnd_item {it l : Addr} {i : Nat} {items} {x : Value} {Q : Option Value → Shared → Prop} (hit : s.heap.IsListIter it l i)
    (hl : s.heap.IsList l items) (hx : items[i]? = some x)
    (hQ : ∀ h', h'.IsListIter it l (i + 1) → Heap.SameBut it s.heap h' → Q (some x) { s with heap := h' }) :
    wpAny (model prog w) A (Builtin.SmallTypes.nextOrEnd (.ref it)) Q E s := by
  unfold Builtin.SmallTypes.nextOrEnd
  exact wpAny_bind (wpAny_attempt (wpAny_nextOf_list_item hit hl hx fun h' a b => wpAny_pure (hQ h' a b)))
theorem nextOrEnd_end (hh : A.handled = none) {it l : Addr} {i : Nat} {items} {Q : Option Value → Shared → Prop} (hit : s.heap.IsListIter it l i)
    (hl : s.heap.IsList l items) (hx : items[i]? = none)
    (hQ : ∀ h', Heap.ExtBut it s.heap h' → Q none { s with heap := h' }) :
    wpAny (model prog w) A (Builtin.SmallTypes.nextOrEnd (.ref it)) Q E s := by
  unfold Builtin.SmallTypes.nextOrEnd
  refine wpAny_bind (wpAny_attempt (wpAny_nextOf_list_end hh hit hl hx fun h' e he hx' => ?_))
  obtain ⟨o, ho, hc⟩ := hx'
  refine wpAny_bind (wpAny_isInstance (T := "StopIteration") (b := true) ⟨o, ho, hc⟩ isSubtype_stop ?_)
  exact wpAny_pure (hQ _ he)
theorem zipS_next_item {z TI TO i1 i2 l1 l2 : Addr} {k1 k2 : Nat} {xs ys : Array Value} {x y a b : Value} {Q : Value → Shared → Prop} (D : ZipApart z TI TO i1 i2 l1 l2)
    (hz : IsZipS s.heap z TI TO .none) (hTI : IsPair s.heap TI (.ref i1) (.ref i2)) (hTO : IsPair s.heap TO a b)
    (h1 : s.heap.IsListIter i1 l1 k1) (h2 : s.heap.IsListIter i2 l2 k2) (hl1 : s.heap.IsList l1 xs) (hl2 : s.heap.IsList l2 ys) (hx : xs[k1]? = some x) (hy : ys[k2]? = some y)
    (hQ : ∀ h', IsZipS h' z TI TO (rawInt s.heap.objs.size) → IsPair h' TO x y → h'.IsListIter i1 l1 (k1 + 1) → h'.IsListIter i2 l2 (k2 + 1) → IsPair h' s.heap.objs.size x y → h'.objs.size = s.heap.objs.size + 1 →
      (∀ c o, c ≠ z → c ≠ TO → c ≠ i1 → c ≠ i2 → s.heap.get? c = some o → h'.get? c = some o) → Q (.ref s.heap.objs.size) { s with heap := h' }) :
    wpAny (model prog w) A (Builtin.«zip.__next__» ⟨[.ref z], []⟩) (fun fin s' => ∃ v, fin = .done (.ret v) ∧ Q v s') E s := by
  show wpAny _ _ (field (.ref z) 2 >>= _) _ _ _
  refine wpAny_bind (wpAny_field hz rfl (x := .bool true) rfl ?_)
  show wpAny _ _ (field (.ref z) 3 >>= _) _ _ _
  refine wpAny_bind (wpAny_field hz rfl (x := .ref TI) rfl ?_)
  refine wpAny_bind (wpAny_seqItems hTI rfl ?_)
  show wpAny _ _ (Builtin.SmallTypes.ownedTupleIsFree (.ref z) >>= _) _ _ _
  refine wpAny_bind ?_
  unfold Builtin.SmallTypes.ownedTupleIsFree
  refine wpAny_bind (wpAny_field hz rfl (x := .none) rfl (wpAny_pure ?_))
  simp only [if_true]
  refine wpAny_bind (wpAny_rule ?_)
  refine wpAny_bind (wpAny_field hz rfl (x := .ref TO) rfl ?_)
  refine wpAny_bind (wpAny_setField_rec hz (by simp) fun h₁ hz₁ hs₁ => ?_)
  replace hz₁ : IsZipS h₁ z TI TO .ellipsis := hz₁
  refine wpAny_bind ?_
  simp only [List.zipIdx_cons, List.zipIdx_nil, List.forIn_cons, List.forIn_nil]
  refine wpAny_bind (wpAny_bind (wpAny_onRaise ?_))
  show wpAny _ _ (Builtin.SmallTypes.nextOrEnd (.ref i1)) _ _ _
  refine nextOrEnd_item (h1.extBut hs₁.extBut D.i1z) (hl1.extBut hs₁.extBut D.l1z) hx fun h₂ h1₂ hs₂ => ?_
  have hTO₂ : IsPair h₂ TO a b := hs₂.extBut _ _ D.TOi1 (hs₁.extBut _ _ D.TOz hTO)
  refine wpAny_bind (wpAny_seqItems hTO₂ rfl ?_)
  refine wpAny_bind (wpAny_updateSeq_pair hTO₂ fun h₃ hTO₃ hs₃ => ?_)
  replace hTO₃ : IsPair h₃ TO x b := hTO₃
  refine wpAny_bind (wpAny_letGo (wpAny_pure ?_))
  refine wpAny_bind (wpAny_bind (wpAny_onRaise ?_))
  show wpAny _ _ (Builtin.SmallTypes.nextOrEnd (.ref i2)) _ _ _
  refine nextOrEnd_item (((h2.extBut hs₁.extBut D.i2z).extBut hs₂.extBut D.i12.symm).extBut hs₃.extBut D.TOi2.symm)
    (((hl2.extBut hs₁.extBut D.l2z).extBut hs₂.extBut D.l2i1).extBut hs₃.extBut D.l2TO) hy fun h₄ h2₄ hs₄ => ?_
  have hTO₄ : IsPair h₄ TO x b := hs₄.extBut _ _ D.TOi2 hTO₃
  refine wpAny_bind (wpAny_seqItems hTO₄ rfl ?_)
  refine wpAny_bind (wpAny_updateSeq_pair hTO₄ fun h₅ hTO₅ hs₅ => ?_)
  replace hTO₅ : IsPair h₅ TO x y := hTO₅
  refine wpAny_bind (wpAny_letGo (wpAny_pure (wpAny_pure ?_)))
  refine wpAny_bind (wpAny_seqItems hTO₅ rfl ?_)
  refine wpAny_bind (wpAny_newTuple ?_)
  have hsz : h₅.objs.size = s.heap.objs.size := by rw [hs₅.1, hs₄.1, hs₃.1, hs₂.1, hs₁.1]
  have hz₅ : IsZipS h₅ z TI TO .ellipsis := hs₅.extBut _ _ D.TOz.symm (hs₄.extBut _ _ D.i2z.symm (hs₃.extBut _ _ D.TOz.symm (hs₂.extBut _ _ D.i1z.symm hz₁)))
  have hk₅ : ∀ c o, c ≠ z → c ≠ TO → c ≠ i1 → c ≠ i2 → s.heap.get? c = some o → h₅.get? c = some o := fun c o c1 c2 c3 c4 e =>
    hs₅.extBut _ _ c2 (hs₄.extBut _ _ c4 (hs₃.extBut _ _ c2 (hs₂.extBut _ _ c3 (hs₁.extBut _ _ c1 e))))
  have h1₅ : h₅.IsListIter i1 l1 (k1 + 1) := ((h1₂.extBut hs₃.extBut D.TOi1.symm).extBut hs₄.extBut D.i12).extBut hs₅.extBut D.TOi1.symm
  have h2₅ : h₅.IsListIter i2 l2 (k2 + 1) := h2₄.extBut hs₅.extBut D.TOi2.symm
  have hzlt : z < h₅.objs.size := Heap.lt_size hz₅
  show wpAny _ _ (Builtin.SmallTypes.ownedTupleHandOut (.ref z) (.ref h₅.objs.size) >>= _) _ _ _
  refine wpAny_bind ?_
  unfold Builtin.SmallTypes.ownedTupleHandOut
  have hz₆ : IsZipS (h₅.push { cls := .type "tuple", data := .seq #[x, y] }) z TI TO .ellipsis := Heap.get?_push_of_some _ hz₅
  refine wpAny_bind (wpAny_setField_rec hz₆ (by simp) fun h₇ hz₇ hs₇ => ?_)
  replace hz₇ : IsZipS h₇ z TI TO (rawInt h₅.objs.size) := hz₇
  refine wpAny_setField_rec hz₇ (by simp) fun h₈ hz₈ hs₈ => ?_
  replace hz₈ : IsZipS h₈ z TI TO (rawInt h₅.objs.size) := hz₈
  have up : ∀ c o, c ≠ z → h₅.get? c = some o → h₈.get? c = some o := fun c o c1 e => hs₈.extBut _ _ c1 (hs₇.extBut _ _ c1 (Heap.get?_push_of_some _ e))
  have hT₈ : IsPair h₈ h₅.objs.size x y := hs₈.extBut _ _ (Nat.ne_of_gt hzlt) (hs₇.extBut _ _ (Nat.ne_of_gt hzlt) (Heap.get?_push_size _ rfl))
  have hz8 : h₈.objs.size = h₅.objs.size + 1 := by rw [hs₈.1, hs₇.1, Heap.size_push]
  rw [hsz] at hz₈ hT₈ hz8
  refine wpAny_pure ⟨_, rfl, ?_⟩
  show Q (.ref h₅.objs.size) _
  rw [hsz]
  exact hQ h₈ hz₈ (up _ _ D.TOz hTO₅) (h1₅.at fun o e => up _ o D.i1z e) (h2₅.at fun o e => up _ o D.i2z e) hT₈ hz8 fun c o c1 c2 c3 c4 e => up c o c1 (hk₅ c o c1 c2 c3 c4 e)
theorem zipS_next_end {z TI TO i1 i2 l1 l2 : Addr} {k1 k2 : Nat} {xs ys : Array Value} {a b : Value} {Q : Fin → Shared → Prop} (hh : A.handled = none) (D : ZipApart z TI TO i1 i2 l1 l2)
    (hz : IsZipS s.heap z TI TO .none) (hTI : IsPair s.heap TI (.ref i1) (.ref i2)) (hTO : IsPair s.heap TO a b)
    (h1 : s.heap.IsListIter i1 l1 k1) (h2 : s.heap.IsListIter i2 l2 k2) (hl1 : s.heap.IsList l1 xs) (hl2 : s.heap.IsList l2 ys) (hx : xs[k1]? = none) (hy : ys[k2]? = none)
    (hE : ∀ h' e, (∀ c o, c ≠ z → c ≠ TO → c ≠ i1 → c ≠ i2 → s.heap.get? c = some o → h'.get? c = some o) → (∃ o, h'.get? e = some o ∧ o.cls = .type "StopIteration") → E (.ref e) { s with heap := h' }) :
    wpAny (model prog w) A (Builtin.«zip.__next__» ⟨[.ref z], []⟩) Q E s := by
  show wpAny _ _ (field (.ref z) 2 >>= _) _ _ _
  refine wpAny_bind (wpAny_field hz rfl (x := .bool true) rfl ?_)
  show wpAny _ _ (field (.ref z) 3 >>= _) _ _ _
  refine wpAny_bind (wpAny_field hz rfl (x := .ref TI) rfl ?_)
  refine wpAny_bind (wpAny_seqItems hTI rfl ?_)
  show wpAny _ _ (Builtin.SmallTypes.ownedTupleIsFree (.ref z) >>= _) _ _ _
  refine wpAny_bind ?_
  unfold Builtin.SmallTypes.ownedTupleIsFree
  refine wpAny_bind (wpAny_field hz rfl (x := .none) rfl (wpAny_pure ?_))
  simp only [if_true]
  refine wpAny_bind (wpAny_rule ?_)
  refine wpAny_bind (wpAny_field hz rfl (x := .ref TO) rfl ?_)
  refine wpAny_bind (wpAny_setField_rec hz (by simp) fun h₁ hz₁ hs₁ => ?_)
  replace hz₁ : IsZipS h₁ z TI TO .ellipsis := hz₁
  refine wpAny_bind ?_
  simp only [List.zipIdx_cons, List.zipIdx_nil, List.forIn_cons, List.forIn_nil]
  refine wpAny_bind (wpAny_bind (wpAny_onRaise ?_))
  show wpAny _ _ (Builtin.SmallTypes.nextOrEnd (.ref i1)) _ _ _
  refine nextOrEnd_end hh (h1.extBut hs₁.extBut D.i1z) (hl1.extBut hs₁.extBut D.l1z) hx fun h₂ hs₂ => ?_
  have hz₂ : IsZipS h₂ z TI TO .ellipsis := hs₂ _ _ D.i1z.symm hz₁
  refine wpAny_bind (wpAny_setField_rec hz₂ (by simp) fun h₃ hz₃ hs₃ => ?_)
  refine wpAny_bind ?_
  show wpAny _ _ (forIn [((Value.ref i2), 1)] _ _ >>= _) _ _ _
  simp only [List.forIn_cons, List.forIn_nil]
  refine wpAny_bind (wpAny_bind (wpAny_bind ?_))
  refine nextOrEnd_end hh (((h2.extBut hs₁.extBut D.i2z).extBut hs₂ D.i12.symm).extBut hs₃.extBut D.i2z)
      (((hl2.extBut hs₁.extBut D.l2z).extBut hs₂ D.l2i1).extBut hs₃.extBut D.l2z) hy fun h₄ hs₄ => ?_
  refine wpAny_pure (wpAny_pure (wpAny_bind (wpAny_rule ?_)))
  show wpAny _ _ (newExc (.type "StopIteration") [] >>= _) _ _ _
  refine wpAny_bind ?_
  simp only [newExc, newTuple]
  refine wpAny_bind (wpAny_newObj_type ?_ (by size_fits))
  refine wpAny_bind (m := firstArgMember _ _) (wpAny_of_eq (a := Value.none) (by first | rfl | (simp only [firstArgMember]; rfl)) ?_)
  refine wpAny_newObj_type ?_ (by size_fits)
  simp only [raiseNew]
  refine wpAny_bind (wpAny_handled ?_)
  first | rw [show A.in1.handled = none from hh] | rw [hh]
  refine wpAny_bind (wpAny_pure (wpAny_throw ?_))
  exact hE _ _ (fun c o c1 c2 c3 c4 x => Heap.get?_push_of_some _ (Heap.get?_push_of_some _ (hs₄ _ _ c4 (hs₃.extBut _ _ c1 (hs₂ _ _ c3 (hs₁.extBut _ _ c1 x)))))) ⟨_, Heap.get?_push_size _ rfl, rfl⟩
end
end PySem
end

section
set_option Elab.async false
set_option linter.all false
set_option maxRecDepth 100000
set_option maxHeartbeats 4000000
namespace PySem
open AutoSeq1 (wpAny_loadPart')
abbrev zipS5 (h : Heap) (l1 l2 : Addr) : Heap := (zipH4 h l1 l2).push { cls := .type "zip", data := .fields #[.none, .bool false, .bool true, .ref (zipH2 h l1 l2).objs.size, .ref (zipH3 h l1 l2).objs.size] }
theorem meets_zip_newS (l1 l2 : Addr) (xs ys : Array Value) :
    Meets (Builtin.«zip.__new__» ⟨[.type "zip", .ref l1, .ref l2], [(Str.ofString "strict", .bool true)]⟩) (fun _ R s => s.heap.IsList l1 xs ∧ s.heap.IsList l2 ys ∧
      R (.ok (.ret (.ref (zipH4 s.heap l1 l2).objs.size))) { s with heap := zipS5 s.heap l1 l2 }) :=
  .of_wp fun prog w A R s h => by
    obtain ⟨hp, g, d, tk, os⟩ := s; obtain ⟨hl1, hl2, h⟩ := h
    have hsub := sub_zip
    have hL1 : Heap.IsList (Shared.heap ⟨hp, g, d, tk, os⟩) l1 xs := hl1
    have hL2 : Heap.IsList (Shared.heap ⟨hp.push { cls := .type "list_iterator", data := .fields #[.ref l1, .int 0 0] }, g, d, tk, os⟩) l2 ys := Heap.IsList.push hl2 _
    have e2 : (Str.ofString "strict" != ("strict" : Str)) = false := by decide +kernel
    wp_walk using wpAny_pyIter_list hL1, wpAny_pyIter_list hL2
    exact ⟨_, rfl, h⟩
section
variable {prog : Program} {w : World} {A : Around} {E : Value → Shared → Prop} {s : Shared}
theorem call_zipS_2 {l1 l2 : Addr} {xs ys : Array Value} {Q : Value → Shared → Prop} (hl1 : s.heap.IsList l1 xs) (hl2 : s.heap.IsList l2 ys)
    (h : ∀ h', IsZipS h' (s.heap.objs.size + 4) (s.heap.objs.size + 2) (s.heap.objs.size + 3) .none → IsPair h' (s.heap.objs.size + 2) (.ref s.heap.objs.size) (.ref (s.heap.objs.size + 1)) →
      IsPair h' (s.heap.objs.size + 3) .none .none → h'.IsListIter s.heap.objs.size l1 0 → h'.IsListIter (s.heap.objs.size + 1) l2 0 → h'.objs.size = s.heap.objs.size + 5 →
      (∀ c o, s.heap.get? c = some o → h'.get? c = some o) → Q (.ref (s.heap.objs.size + 4)) { s with heap := h' }) :
    wpAny (model prog w) A (call (.type "zip") [.ref l1, .ref l2] [(Str.ofString "strict", .bool true)]) Q E s := by
  refine callType_newKw F.called_zip (by decide) (F.typeCall_zip_strict _ _ _) (F.newCall_zip_strict _ _ _) (fun obj => F.args_object_init_strict obj _ _ _) F.entry_zip_new
    (meets_zip_newS l1 l2 xs ys) ⟨hl1, hl2, ?_⟩
  have z1 : (zipH1 s.heap l1).objs.size = s.heap.objs.size + 1 := Heap.size_push ..
  have z2 : (zipH2 s.heap l1 l2).objs.size = s.heap.objs.size + 2 := by rw [Heap.size_push, z1]
  have z3 : (zipH3 s.heap l1 l2).objs.size = s.heap.objs.size + 3 := by rw [Heap.size_push, z2]
  have z4 : (zipH4 s.heap l1 l2).objs.size = s.heap.objs.size + 4 := by rw [Heap.size_push, z3]
  have z5 : (zipS5 s.heap l1 l2).objs.size = s.heap.objs.size + 5 := by rw [Heap.size_push, z4]
  have g5 : (zipS5 s.heap l1 l2).get? (zipH4 s.heap l1 l2).objs.size = some _ := Heap.get?_push_size _ rfl
  have g4 : (zipS5 s.heap l1 l2).get? (zipH3 s.heap l1 l2).objs.size = some _ := Heap.get?_push_of_some _ (Heap.get?_push_size _ rfl)
  have g3 : (zipS5 s.heap l1 l2).get? (zipH2 s.heap l1 l2).objs.size = some _ := Heap.get?_push_of_some _ (Heap.get?_push_of_some _ (Heap.get?_push_size _ rfl))
  have g2 : (zipS5 s.heap l1 l2).get? (zipH1 s.heap l1).objs.size = some _ := Heap.get?_push_of_some _ (Heap.get?_push_of_some _ (Heap.get?_push_of_some _ (Heap.get?_push_size _ rfl)))
  have g1 : (zipS5 s.heap l1 l2).get? s.heap.objs.size = some _ := Heap.get?_push_of_some _ (Heap.get?_push_of_some _ (Heap.get?_push_of_some _ (Heap.get?_push_of_some _ (Heap.get?_push_size _ rfl))))
  show _ ∧ _
  rw [z2, z3, z4] at g5
  rw [z1, z2] at g3
  rw [z3] at g4
  rw [z1] at g2
  rw [z4]
  exact ⟨⟨_, g5, rfl⟩, h _ g5 g3 g4 ⟨_, g1, rfl, rfl⟩ ⟨_, g2, rfl, rfl⟩ z5 fun c o x =>
    Heap.get?_push_of_some _ (Heap.get?_push_of_some _ (Heap.get?_push_of_some _ (Heap.get?_push_of_some _ (Heap.get?_push_of_some _ x))))⟩
theorem pyNext_zipS_item {z TI TO i1 i2 l1 l2 : Addr} {k1 k2 : Nat} {xs ys : Array Value} {x y a b : Value} {Q : Option Value → Shared → Prop} (D : ZipApart z TI TO i1 i2 l1 l2)
    (hz : IsZipS s.heap z TI TO .none) (hTI : IsPair s.heap TI (.ref i1) (.ref i2)) (hTO : IsPair s.heap TO a b)
    (h1 : s.heap.IsListIter i1 l1 k1) (h2 : s.heap.IsListIter i2 l2 k2) (hl1 : s.heap.IsList l1 xs) (hl2 : s.heap.IsList l2 ys) (hx : xs[k1]? = some x) (hy : ys[k2]? = some y)
    (hQ : ∀ h', IsZipS h' z TI TO (rawInt s.heap.objs.size) → IsPair h' TO x y → h'.IsListIter i1 l1 (k1 + 1) → h'.IsListIter i2 l2 (k2 + 1) → IsPair h' s.heap.objs.size x y → h'.objs.size = s.heap.objs.size + 1 →
      (∀ c o, c ≠ z → c ≠ TO → c ≠ i1 → c ≠ i2 → s.heap.get? c = some o → h'.get? c = some o) → Q (some (.ref s.heap.objs.size)) { s with heap := h' }) :
    wpAny (model prog w) A (pyNext (.ref z)) Q E s := by
  have hT : s.TypeIs (.ref z) "zip" := ⟨_, hz, rfl⟩
  unfold pyNext
  exact wpAny_bind (wpAny_attempt (wpAny_callSpecial?_slot (name := Str.ofString "__next__") hT F.slot_zip_next
    (wpAny_call_entry F.slot_zip_next hT F.entry_zip_next
      (zipS_next_item D hz hTI hTO h1 h2 hl1 hl2 hx hy fun h' a1 a2 a3 a4 a5 a6 a7 => wpAny_pure (hQ h' a1 a2 a3 a4 a5 a6 a7)) (F.args_zip_next_1 _))))
theorem pyNext_zipS_end {z TI TO i1 i2 l1 l2 : Addr} {k1 k2 : Nat} {xs ys : Array Value} {a b : Value} {Q : Option Value → Shared → Prop} (hh : A.handled = none) (D : ZipApart z TI TO i1 i2 l1 l2)
    (hz : IsZipS s.heap z TI TO .none) (hTI : IsPair s.heap TI (.ref i1) (.ref i2)) (hTO : IsPair s.heap TO a b)
    (h1 : s.heap.IsListIter i1 l1 k1) (h2 : s.heap.IsListIter i2 l2 k2) (hl1 : s.heap.IsList l1 xs) (hl2 : s.heap.IsList l2 ys) (hx : xs[k1]? = none) (hy : ys[k2]? = none)
    (hQ : ∀ h', (∀ c o, c ≠ z → c ≠ TO → c ≠ i1 → c ≠ i2 → s.heap.get? c = some o → h'.get? c = some o) → Q none { s with heap := h' }) : wpAny (model prog w) A (pyNext (.ref z)) Q E s := by
  have hT : s.TypeIs (.ref z) "zip" := ⟨_, hz, rfl⟩
  unfold pyNext
  refine wpAny_bind (wpAny_attempt (wpAny_callSpecial?_slot (name := Str.ofString "__next__") hT F.slot_zip_next
    (wpAny_call_entry F.slot_zip_next hT F.entry_zip_next (zipS_next_end hh D hz hTI hTO h1 h2 hl1 hl2 hx hy fun h' e hk he => ?_) (F.args_zip_next_1 _))))
  obtain ⟨o, ho, hc⟩ := he
  refine wpAny_bind (wpAny_isInstance (T := "StopIteration") (b := true) ⟨o, ho, hc⟩ isSubtype_stop ?_)
  exact wpAny_pure (hQ _ hk)
theorem letGo_zipS {elts : List Expr} {x1} {pos : Pos} {z TI TO T : Addr} {Q : Unit → Shared → Prop} (hz : IsZipS s.heap z TI TO (rawInt T))
    (hQ : ∀ h', IsZipS h' z TI TO .none → Heap.SameBut z s.heap h' → Q () { s with heap := h' }) :
    wpAny (model prog w) A (letOwnedTupleGo (.Tuple elts x1 pos) (.ref z) (.ref T)) Q E s := by
  unfold letOwnedTupleGo
  refine wpAny_bind (wpAny_load hz ?_)
  show wpAny _ _ (if (["enumerate", "zip", "dict_itemiterator", "dict_reverseitemiterator", "odict_iterator", "itertools.zip_longest", "itertools.pairwise"].contains "zip" &&
      (#[rawInt T, .bool false, .bool true, .ref TI, .ref TO] : Array Value)[0]? == some (rawInt T)) = true then _ else _) Q E s
  rw [if_pos (by simp)]
  refine wpAny_bind (wpAny_rule ?_)
  show wpAny _ _ (setField (.ref z) 0 .none) Q E s
  exact wpAny_setField_rec hz (by simp) fun h' hz' hs' => hQ h' hz' hs'
theorem pyIter_zipS {z TI TO : Addr} {f0 : Value} {Q : Value → Shared → Prop} (hz : IsZipS s.heap z TI TO f0) (h : Q (.ref z) s) : wpAny (model prog w) A (pyIter (.ref z)) Q E s := by
  have hT : s.TypeIs (.ref z) "zip" := ⟨_, hz, rfl⟩
  refine wpAny_pyIter_slot hT F.slot_zip_iter (wpAny_call_entry F.slot_zip_iter hT F.entry_zip_iter ?_ (F.args_zip_iter_1 _))
  show wpAny _ _ (ret (.ref z)) _ _ s
  exact wpAny_pure ⟨_, rfl, "zip", _, hT, F.slot_zip_next.lookup, h⟩
theorem callWith_type_kw {pos : Pos} {T : String} {env : Env} {e : Expr} {rest : List Expr} {kws : List Keyword} {Q : Value → Shared → Prop} {M : Model}
    (h : wpAny M A (spliced (backTo pos (starEach (e :: rest) env))) (fun vs s₁ => wpAny M A (evalAll ((backToKw pos (keywordEach kws env)).map (·.2)))
      (fun kvs s₂ => wpAny M A (call (.type T) vs (((backToKw pos (keywordEach kws env)).filterMap (·.1)).zip kvs)) Q E s₂) E s₁) E s)
    (he : backTo pos (starEach (e :: rest) env) = (false, eval e env) :: backTo pos (starEach rest env) := by rfl)
    (hplain : (backTo pos (starEach (e :: rest) env)).any (·.1) = false := by rfl)
    (hall : (backToKw pos (keywordEach kws env)).all (·.1.isSome) = true := by rfl)
    (hkw : (backToKw pos (keywordEach kws env)).any (·.1.isNone) = false := by rfl) :
    wpAny M A (callWith pos (.type T) [] (backTo pos (starEach (e :: rest) env)) (backToKw pos (keywordEach kws env))) Q E s := by
  unfold callWith
  have z : wpAny M A (evalArgs (.type T) true (backTo pos (starEach (e :: rest) env)) (backToKw pos (keywordEach kws env))) (fun a s₁ => wpAny M A (call (.type T) ([] ++ a.pos) a.kw) Q E s₁) E s := by
    rw [he] at h ⊢
    exact PyProof.Rows.evalArgs_kwB hall h
  refine wpAny_bind (wpAny_holding (wpAny_mono z (fun a s₁ h₁ => wpAny_bind (wpAny_standAt ?_)) fun _ _ x => x))
  simp only [hplain, hkw, Bool.or_false]
  refine wpAny_bind (wpAny_pure ?_)
  exact wpAny_bind (wpAny_mono h₁ (fun r s₂ hr => wpAny_bind (wpAny_holding (wpAny_point (wpAny_pure hr)))) fun _ _ x => x)
end
end PySem
namespace L3
open PySem PySem.Spec PyProof.Rows L2
/-- two lists of one length at a and b, walked together -/
def Itzs (K : PySem.W.Frag) (a b : Addr) : It :=
  ⟨fun i H => ∃ (xs ys : List V) (x y : V), SqL K H a xs ∧ SqL K H b ys ∧ xs[i]? = some x ∧ ys[i]? = some y,
    fun i H v H' => ∃ T x y, v = .ref T ∧ H T = none ∧ H' = upd H T (.tup [x, y]) ∧ (∀ xs, SqL K H a xs → xs[i]? = some x) ∧ ∀ ys, SqL K H b ys → ys[i]? = some y,
    fun i H => ∃ xs ys : List V, SqL K H a xs ∧ SqL K H b ys ∧ xs.length ≤ i ∧ ys.length ≤ i⟩
theorem turn_zipS {P : Program} {w : World} {K : PySem.W.Frag} {elts : List Expr} {kk : Nat} {tpos : Pos} {a b z TI TO i1 i2 : Addr} (D : ZipApart z TI TO i1 i2 a b) :
    Turn P w K (.Tuple elts kk tpos) (Itzs K a b) [z, TI, TO, i1, i2] z (fun i h => IsZipS h z TI TO .none ∧ IsPair h TI (.ref i1) (.ref i2) ∧ (∃ x y, IsPair h TO x y) ∧ h.IsListIter i1 a i ∧ h.IsListIter i2 b i) where
  mem := by simp
  obj := fun i h st c hc => by
    obtain ⟨hz, hTI, ⟨x, y, hTO⟩, ⟨o1, e1, _, d1⟩, ⟨o2, e2, _, d2⟩⟩ := st
    have e' : c = z ∨ c = TI ∨ c = TO ∨ c = i1 ∨ c = i2 := by simpa using hc
    rcases e' with q | q | q | q | q
    · rw [q]; exact ⟨_, hz, fun v q => nomatch q⟩
    · rw [q]; exact ⟨_, hTI, fun v q => nomatch q⟩
    · rw [q]; exact ⟨_, hTO, fun v q => nomatch q⟩
    · rw [q]; exact ⟨o1, e1, fun v q => by rw [d1] at q; cases q⟩
    · rw [q]; exact ⟨o2, e2, fun v q => by rw [d2] at q; cases q⟩
  keep := fun i h h' st k => by
    obtain ⟨hz, hTI, ⟨x, y, hTO⟩, h1, h2⟩ := st
    exact ⟨k z (by simp) _ hz, k TI (by simp) _ hTI, ⟨x, y, k TO (by simp) _ hTO⟩, h1.at fun o q => k i1 (by simp) o q, h2.at fun o q => k i2 (by simp) o q⟩
  item := by
    intro X hP hw hK hc i pins s σ H E I hf st hg
    subst hP hw hK
    obtain ⟨hz, hTI, ⟨x0, y0, hTO⟩, h1, h2⟩ := st
    obtain ⟨xs, ys, x, y, hqx, hqy, hx, hy⟩ := hg
    obtain ⟨its, rv, p, _⟩ := I.list hqx
    obtain ⟨its2, rv2, p2, _⟩ := I.list hqy
    obtain ⟨u, hu, ru⟩ := rv.get hx
    obtain ⟨u2, hu2, ru2⟩ := rv2.get hy
    have hzl : z < s.heap.objs.size := Heap.lt_size hz
    refine pyNext_zipS_item D hz hTI hTO h1 h2 p.isList p2.isList (x := u) (y := u2) (by simpa using hu) (by simpa using hu2) fun h' z' TO' h1' h2' hT hsz hk => ?_
    refine ⟨_, rfl, letGo_zipS (s := { s with heap := h' }) z' fun h'' z'' sb => ?_⟩
    have hT2 : h''.get? s.heap.objs.size = some { cls := .type "tuple", data := .seq #[u, u2] } := (sb.2 _ (Nat.ne_of_gt hzl)).trans hT
    have new : ObjOk X.prog X.w (upd H s.heap.objs.size (.tup [x, y])) h'' s.heap.objs.size (.tup [x, y]) :=
      ⟨by show 2 ≤ sizeLine; decide, [u, u2], .cons ru (.cons ru2 .nil), ⟨_, hT2, rfl, _, rfl⟩⟩
    have I1 : Inv X pins σ (upd H s.heap.objs.size (.tup [x, y])) { s with heap := h'' } :=
      I.turnedNew (t' := s.toks) (ch := [z, TI, TO, i1, i2]) (fun c o hb q => (sb.2 c (fun q' => hb (by simp [q']))).trans (hk c o (fun q' => hb (by simp [q'])) (fun q' => hb (by simp [q'])) (fun q' => hb (by simp [q'])) (fun q' => hb (by simp [q'])) q)) hf (Nat.le_refl _) new
    refine ⟨.ref s.heap.objs.size, _, I1, rfl, ⟨_, x, y, rfl, I.hok.fresh (Nat.le_refl _), rfl, fun l hl => by rw [I.list_inj hl hqx]; exact hx, fun l hl => by rw [I.list_inj hl hqy]; exact hy⟩, ⟨z'', ?_, ⟨u, u2, ?_⟩, ?_, ?_⟩, fun c hcm => ?_⟩
    · exact (sb.2 _ D.TIz).trans (hk _ _ D.TIz D.TITO D.TIi1 D.TIi2 hTI)
    · exact (sb.2 _ D.TOz).trans TO'
    · exact h1'.at fun o q => (sb.2 _ D.i1z).trans q
    · exact h2'.at fun o q => (sb.2 _ D.i2z).trans q
    · have hlt : c < s.heap.objs.size := by
        have e' : c = z ∨ c = TI ∨ c = TO ∨ c = i1 ∨ c = i2 := by simpa using hcm
        rcases e' with q | q | q | q | q
        · rw [q]; exact hzl
        · rw [q]; exact Heap.lt_size hTI
        · rw [q]; exact Heap.lt_size hTO
        · rw [q]; obtain ⟨_, e1, _⟩ := h1; exact Heap.lt_size e1
        · rw [q]; obtain ⟨_, e2, _⟩ := h2; exact Heap.lt_size e2
      rw [upd_ne (Nat.ne_of_lt hlt)]
      exact (hf c hcm).1
  done := by
    intro X hP hw hK hc i pins s σ H E I hf st hg
    subst hP hw hK
    obtain ⟨hz, hTI, ⟨x0, y0, hTO⟩, h1, h2⟩ := st
    obtain ⟨xs, ys, hqx, hqy, q1, q2⟩ := hg
    obtain ⟨its, rv, p, _⟩ := I.list hqx
    obtain ⟨its2, rv2, p2, _⟩ := I.list hqy
    have l1 := rv.length
    have l2 := rv2.length
    exact pyNext_zipS_end (I.ok.hd hc) D hz hTI hTO h1 h2 p.isList p2.isList (by simp; omega) (by simp; omega) fun h' hk => ⟨rfl, I.turnedL (t' := s.toks) (ch := [z, TI, TO, i1, i2]) (fun c o hb q =>
      hk c o (fun q' => hb (by simp [q'])) (fun q' => hb (by simp [q'])) (fun q' => hb (by simp [q'])) (fun q' => hb (by simp [q'])) q) hf⟩
  self := fun A i s Q E st h => pyIter_zipS st.1 h
def iZipS (K : PySem.W.Frag) (ta tk : TA) : TI := fun σ H R => ta σ H fun vs H1 => tk σ H1 fun zs H2 => ∃ a b xs ys, vs = [.ref a, .ref b] ∧ zs = [.bl true] ∧ SqL K H2 a xs ∧ SqL K H2 b ys ∧ R (Itzs K a b) H2
theorem pi_zipS {X : Cx} {e e2 : Expr} {kws : List Keyword} {ta tk : TA} {p pos tpos : Pos} {elts : List Expr} {kk : Nat} (hg : Gl X "zip") (hm : X.mg "zip" = none) (ha : PA X [e, e2] ta) (hk : PK X kws tk)
    (he : backTo pos (starEach [e, e2] X.env) = (false, eval e X.env) :: backTo pos (starEach [e2] X.env) := by rfl) (hpl : (backTo pos (starEach [e, e2] X.env)).any (·.1) = false := by rfl)
    (hall : (backToKw pos (keywordEach kws X.env)).all (·.1.isSome) = true := by rfl) (hnone : (backToKw pos (keywordEach kws X.env)).any (·.1.isNone) = false := by rfl) (hks : (backToKw pos (keywordEach kws X.env)).filterMap (·.1) = [Str.ofString "strict"] := by rfl) :
    PI X (.Tuple elts kk tpos) (.Call (.Name "zip" p) [e, e2] kws pos) (iZipS X.K ta tk) := by
  refine ⟨fun pins s σ H R I h => ?_⟩
  refine wpAny_Call_Name_kw (ld_blt I hg hm PyProof.Rows.boot_zip ?_)
  refine callWith_type_kw (thn (ha.run pos pins s σ H _ I h) fun us s0 ⟨vs, H0, I0, r1, q1⟩ => thn (hk.run pos pins s0 σ H0 _ I0 q1) fun ws s1 ⟨zs, H1, I1, r2, q2⟩ => ?_) he hpl hall hnone
  rw [hks]
  obtain ⟨a, b, xs, ys, ex, ez, hqx, hqy, q⟩ := q2
  subst ex ez
  obtain ⟨u1, u2, rfl, ra, rb⟩ := vals2 r1
  obtain ⟨u3, rfl, rc⟩ := vals1 r2
  cases ra
  cases rb
  cases rc
  obtain ⟨its, rv, p1, _⟩ := I1.list hqx
  obtain ⟨its2, rv2, p2, _⟩ := I1.list hqy
  have la : a < s1.heap.objs.size := p1.lt
  have lb : b < s1.heap.objs.size := p2.lt
  refine call_zipS_2 p1.isList p2.isList fun h' hz hTI hTO h1 h2 hsz hk => pyIter_zipS hz ?_
  have I2 : Inv X pins σ H1 { s1 with heap := h' } := I1.kept (t' := s1.toks) hk
  refine ⟨s1.heap.objs.size + 4, [s1.heap.objs.size + 4, s1.heap.objs.size + 2, s1.heap.objs.size + 3, s1.heap.objs.size, s1.heap.objs.size + 1], _, _, H1, rfl, I2, turn_zipS (PySem.W.ktu_apart s1.heap.objs.size a b la lb), ⟨hz, hTI, ⟨_, _, hTO⟩, h1, h2⟩, fun c hcm => ?_, q⟩
  have e' : c = s1.heap.objs.size + 4 ∨ c = s1.heap.objs.size + 2 ∨ c = s1.heap.objs.size + 3 ∨ c = s1.heap.objs.size ∨ c = s1.heap.objs.size + 1 := by simpa using hcm
  have hle : s1.heap.objs.size ≤ c := by
    rcases e' with z | z | z | z | z
    · rw [z]; exact Nat.le_add_right _ _
    · rw [z]; exact Nat.le_add_right _ _
    · rw [z]; exact Nat.le_add_right _ _
    · rw [z]; exact Nat.le_refl _
    · rw [z]; exact Nat.le_add_right _ _
  exact I1.fpOk hle (I1.hok.fresh hle)
theorem walk_zipS {K : PySem.W.Frag} {a b : Addr} {xs ys : List V} (hl : xs.length = ys.length) : Walk (Itzs K a b) xs.length (fun H => SqL K H a xs ∧ SqL K H b ys) (YPair (fun i => xs[i]?) (fun i => ys[i]?)) := by
  refine ⟨fun i _ hi q => ⟨xs, ys, xs[i], ys[i]'(by omega), q.1, q.2, by simp [hi], by simp [show i < ys.length by omega]⟩, fun _ q => ⟨xs, ys, q.1, q.2, Nat.le_refl _, Nat.le_of_eq hl.symm⟩, fun i H v H' _ q y => ?_⟩
  obtain ⟨T, x, z, h1, h2, h3, h4, h5⟩ := y
  exact ⟨T, x, z, h1, h2, h3, h4 xs q.1, h5 ys q.2⟩
end L3
end

section
set_option Elab.async false
set_option linter.all false
set_option maxRecDepth 100000
set_option maxHeartbeats 4000000
namespace L3
open PySem PySem.Spec PyProof.Rows L2
/-! own __eq__, __ne__ through it, __len__, __contains__ -/
theorem slot_one : Slot "object" "__ne__" "object.__ne__" := .of (owner := "object") (n := "__ne__") (by rw [typeLookup_type, builtinLookup_eq_fast]; kernel_rfl) (by decide +kernel) (by decide +kernel) (by decide +kernel)
    (.inl (by decide +kernel)) (by rw [isSubtype_type]; kernel_rfl)
section
variable {X : Cx} {n : Nat} {C Cb f : Addr} {fd : FuncData} {ps : List Str} {sp : Sp}
def rOwnC (C Cb : Addr) (sp : Sp) (g : Bool → Bool) : R2 := fun x y H Q => ∃ a b dx dy fs gs, x = .ref a ∧ y = .ref b ∧ H a = some (.ins C dx fs) ∧ H b = some (.ins Cb dy gs) ∧ sp [.ref a, .ref b] H (fun v H' => ∃ k, v = .bl k ∧ Q (.bl (g k)) H') E0
theorem run_in {A : Around} {pins : List (Addr × Obj)} {σ : L2.St} {H : Hp} {s : Shared} {Q : VK} {us : List Value} {vs : List V} (F : FnOk X.prog X.w X.K X.mg X.base CX0 n f fd ps sp) (hA : A.frames = X.A.frames) (hr : Room n A) (hb : Binds X.K fd ps [])
    (I : Inv X pins σ H s) (r : Vals vs us) (h : sp vs H Q E0) {E : Value → Shared → Prop} : wpAny (model X.prog X.w) A (call (.ref f) us) (EP X pins σ Q) E s := by
  have e0 : Env0 X.prog X.w X.K X.mg X.base A X.stack s H := by
    have e := I.env0
    exact ⟨by rw [hA]; exact e.frames, e.mod, e.bs, e.bsz, e.funs, e.frf, e.hok, e.bare⟩
  have hl : (us ++ []).length = ps.length := by rw [List.append_nil, ← r.length]; exact F.len _ _ _ _ h
  refine wpAny_call (codeAny_mono (F.run A X.stack s H ⟨us, []⟩ us vs Q E0 hr e0 (by have := hb s us I.kIn hl; rw [List.append_nil] at this; exact this) r h) fun r s' hq => ?_)
  cases r with
  | error e => exact hq.elim
  | ok fl =>
    cases fl with
    | ret u => exact I.after hq
    | next => exact False.elim hq
    | brk => exact False.elim hq
    | cont => exact False.elim hq
theorem op_ownEq (F : FnOk X.prog X.w X.K X.mg X.base CX0 n f fd ps sp) (hr : Room n X.A) (hb : Binds X.K fd ps []) (hs : PySem.W.findIn X.K (.ref C) "__eq__" = some (some (.ref f))) (hf : PySem.W.isFn X.K (.ref f) = true)
    (hn : PySem.W.notFirst X.K C (.ref Cb) = true) : OpR X (compareOp .Eq) (rOwnC C Cb sp id) := by
  intro pins s σ H x y v u Q I rx ry h
  obtain ⟨a, b, dx, dy, fs, gs, rfl, rfl, ha, hbb, q⟩ := h
  cases (show v = Value.ref a from rx)
  cases (show u = Value.ref b from ry)
  obtain ⟨mA, O, _⟩ := ins_get I.hok ha
  obtain ⟨mB, O', _⟩ := ins_get I.hok hbb
  obtain ⟨od, J, _⟩ := O.look
  obtain ⟨od', J', _⟩ := O'.look
  obtain ⟨m, hF⟩ := I.fr
  refine PySem.W.cmp_K (op := .Eq) (tb := .ref Cb) hr.units0 hF I.ok.mod.kin J J'.type hn hs hf ?_
  refine wpAny_mono (run_in F rfl hr hb I (us := [.ref a, .ref b]) (vs := [.ref a, .ref b]) (.cons rfl (.cons rfl .nil)) q) (fun w' s' z => ?_) fun _ _ x => x
  obtain ⟨z', H', I', rz, k, ek, qz⟩ := z
  subst ek
  cases rz
  exact ⟨.bl k, H', I', rfl, qz⟩
theorem op_ownNe (F : FnOk X.prog X.w X.K X.mg X.base CX0 n f fd ps sp) (hr : Room (n + 1) X.A) (hb : Binds X.K fd ps []) (hs : PySem.W.findIn X.K (.ref C) "__eq__" = some (some (.ref f))) (hf : PySem.W.isFn X.K (.ref f) = true)
    (hne : PySem.W.findIn X.K (.ref C) "__ne__" = some (some (.builtin "object.__ne__"))) (hm : PySem.W.mroIn X.K C (.type "object") = some true)
    (hn : PySem.W.notFirst X.K C (.ref Cb) = true) : OpR X (compareOp .NotEq) (rOwnC C Cb sp not) := by
  intro pins s σ H x y v u Q I rx ry h
  obtain ⟨a, b, dx, dy, fs, gs, rfl, rfl, ha, hbb, q⟩ := h
  cases (show v = Value.ref a from rx)
  cases (show u = Value.ref b from ry)
  obtain ⟨mA, O, _⟩ := ins_get I.hok ha
  obtain ⟨mB, O', _⟩ := ins_get I.hok hbb
  obtain ⟨od, J, _⟩ := O.look
  obtain ⟨od', J', _⟩ := O'.look
  have one : wpAny (model X.prog X.w) X.A (tryCompare (.ref a) "__ne__" (.ref b)) (fun r s' => ∃ v, r = some v ∧ EP X pins σ Q v s') X.xe s := by
    unfold tryCompare
    refine wpAny_bind ?_
    simp only [callSpecialIfBound?, bindSpecialIfBound?]
    refine wpAny_holding (wpAny_bind (wpAny_bind (wpAny_bind (J.type.here ((PySem.W.looks_findIn I.kIn hne).here ?_)))))
    have hbind := slot_one.bind (.ref a)
    have fin : wpAny (model X.prog X.w) X.A (call (.builtin "object.__ne__") ([.ref a] ++ [.ref b]) >>= fun v => pure (some v)) (fun a_1 s₁ => wpAny (model X.prog X.w) X.A
        (match a_1 with | some Value.notImplemented => pure none | none => pure none | some v => pure (some v)) (fun r s' => ∃ v, r = some v ∧ EP X pins σ Q v s') X.xe s₁) X.xe s := by
      refine wpAny_bind (wpAny_call (codeAny_call_builtin slot_one.plain PySem.F.cmpEntry_ne (PySem.W.check_slot PySem.F.cmpKind_ne PySem.F.cmpSplit_ne (J.type.andThen (PySem.W.looks_mroIn I.kIn hm)) (PySem.F.cmpArgs_ne _ _) ?_)))
      unfold Builtin.«object.__ne__»
      refine wpAny_bind (wpAny_pure (wpAny_bind (wpAny_cRoomFor hr.in1.units0 (wpAny_bind (PySem.W.ifBound_K I.kIn J hs hf (wpAny_mono (run_in (A := X.A.in1) F rfl hr.in1 hb I (us := [.ref a, .ref b]) (vs := [.ref a, .ref b]) (.cons rfl (.cons rfl .nil)) q) (fun w' s' z => ?_) fun _ _ x => x))))))
      obtain ⟨z', H', I', rz, k, ek, qz⟩ := z
      subst ek
      cases rz
      exact wpAny_bind (wpAny_truthy_bool (wpAny_pure (wpAny_pure (wpAny_pure ⟨_, rfl, .bl (!k), H', I', rfl, qz⟩))))
    refine wpAny_bind (wpAny_askSetting (wpAny_ite ?_))
    split
    · exact wpAny_bind (by rw [hbind]; exact wpAny_pure (wpAny_pure fin))
    · exact wpAny_tryCatch (wpAny_bind (by rw [hbind]; exact wpAny_pure (wpAny_pure fin)))
  show wpAny (model X.prog X.w) X.A (richCompare .NotEq (.ref a) (.ref b)) (EP X pins σ Q) X.xe s
  unfold richCompare
  simp only [oneThing_ref]
  refine wpAny_holding (wpAny_bind (wpAny_cRoomFor hr.units0 ?_))
  refine wpAny_bind (J.type.here (wpAny_bind (J'.type.here ?_)))
  split
  · rename_i q'
    have e : PySem.W.subIn X.K (.ref Cb) (.ref C) = some false := by
      rcases Bool.or_eq_true_iff.mp hn with e | e
      · rw [beq_iff_eq.mp e] at q'; simp at q'
      · exact beq_iff_eq.mp e
    refine wpAny_bind ((PySem.W.looks_subIn I.kIn e).here ?_)
    simp only [Bool.false_eq_true, if_false]
    refine wpAny_bind (wpAny_mono one (fun r s' z => ?_) fun _ _ e => e)
    obtain ⟨v, rfl, hq⟩ := z
    exact wpAny_pure hq
  · refine wpAny_bind (wpAny_pure ?_)
    simp only [Bool.false_eq_true, if_false]
    refine wpAny_bind (wpAny_mono one (fun r s' z => ?_) fun _ _ e => e)
    obtain ⟨v, rfl, hq⟩ := z
    exact wpAny_pure hq
/-- x in o, x not in o -/
def rOwnIn (C : Addr) (sp : Sp) (g : Bool → Bool) : R2 := fun x y H Q => ∃ a dx fs, y = .ref a ∧ H a = some (.ins C dx fs) ∧ sp [.ref a, x] H (fun v H' => ∃ k, v = .bl k ∧ Q (.bl (g k)) H') E0
theorem op_ownIn (F : FnOk X.prog X.w X.K X.mg X.base CX0 n f fd ps sp) (hr : Room n X.A) (hb : Binds X.K fd ps []) (hs : PySem.W.findIn X.K (.ref C) "__contains__" = some (some (.ref f))) (hf : PySem.W.isFn X.K (.ref f) = true) : OpR X (compareOp .In) (rOwnIn C sp id) := by
  intro pins s σ H x y v u Q I rx ry h
  obtain ⟨a, dx, fs, rfl, ha, q⟩ := h
  cases (show u = Value.ref a from ry)
  obtain ⟨mA, O, _⟩ := ins_get I.hok ha
  obtain ⟨od, J, _⟩ := O.look
  obtain ⟨m, hF⟩ := I.fr
  refine PySem.W.in_K hF I.ok.mod.kin J hs hf ?_
  refine wpAny_mono (run_in F rfl hr hb I (us := [.ref a, v]) (vs := [.ref a, x]) (.cons rfl (.cons rx .nil)) q) (fun w' s' z => ?_) fun _ _ x => x
  obtain ⟨z', H', I', rz, k, ek, qz⟩ := z
  subst ek
  cases rz
  exact wpAny_truthy_bool ⟨.bl k, H', I', rfl, qz⟩
theorem op_ownNotIn (F : FnOk X.prog X.w X.K X.mg X.base CX0 n f fd ps sp) (hr : Room n X.A) (hb : Binds X.K fd ps []) (hs : PySem.W.findIn X.K (.ref C) "__contains__" = some (some (.ref f))) (hf : PySem.W.isFn X.K (.ref f) = true) : OpR X (compareOp .NotIn) (rOwnIn C sp not) := by
  intro pins s σ H x y v u Q I rx ry h
  obtain ⟨a, dx, fs, rfl, ha, q⟩ := h
  cases (show u = Value.ref a from ry)
  obtain ⟨mA, O, _⟩ := ins_get I.hok ha
  obtain ⟨od, J, _⟩ := O.look
  obtain ⟨m, hF⟩ := I.fr
  refine PySem.W.notIn_K hF I.ok.mod.kin J hs hf ?_
  refine wpAny_mono (run_in F rfl hr hb I (us := [.ref a, v]) (vs := [.ref a, x]) (.cons rfl (.cons rx .nil)) q) (fun w' s' z => ?_) fun _ _ x => x
  obtain ⟨z', H', I', rz, k, ek, qz⟩ := z
  subst ek
  cases rz
  exact wpAny_truthy_bool ⟨.bl (!k), H', I', rfl, qz⟩
end
end L3
end

section
set_option Elab.async false
set_option linter.all false
set_option maxRecDepth 100000
set_option maxHeartbeats 4000000
namespace L3
open PySem PySem.Spec PyProof.Rows L2
/-! ### len of an own class -/
section
variable {X : Cx} {n : Nat} {C f : Addr} {fd : FuncData} {ps : List Str} {sp : Sp}
def rOwnLen (C : Addr) (sp : Sp) : List V → Hp → VK → Prop := fun xs H Q => ∃ a dx fs, xs = [.ref a] ∧ H a = some (.ins C dx fs) ∧ sp [.ref a] H (fun v H' => ∃ k : Int, v = .int k ∧ 0 ≤ k ∧ k < 2 ^ 63 ∧ Q (.int k) H') E0
theorem cr_ownLen (F : FnOk X.prog X.w X.K X.mg X.base CX0 n f fd ps sp) (hr : Room (n + 1) X.A) (hb : Binds X.K fd ps []) (hs : PySem.W.findIn X.K (.ref C) "__len__" = some (some (.ref f))) (hf : PySem.W.isFn X.K (.ref f) = true) : CallR X (.builtin "len") (rOwnLen C sp) := by
  intro pins s σ H xs us Q I r h
  obtain ⟨a, dx, fs, rfl, ha, q⟩ := h
  obtain ⟨u, rfl, r1⟩ := vals1 r
  obtain rfl : u = Value.ref a := r1
  obtain ⟨mA, O, _⟩ := ins_get I.hok ha
  obtain ⟨od, J, _⟩ := O.look
  obtain ⟨m, hF⟩ := I.fr
  refine PySem.W.len_K hF I.ok.mod.kin J hs hf ?_
  refine wpAny_mono (run_in (A := X.A.in1) F rfl hr.in1 hb I (us := [.ref a]) (vs := [.ref a]) (.cons rfl .nil) q) (fun w' s' z => ?_) fun _ _ x => x
  obtain ⟨z', H', I', rz, k, ek, h0, h1, qz⟩ := z
  subst ek
  obtain ⟨t, rfl⟩ := rz
  exact ⟨⟨h0, h1⟩, .int k, H', I'.tok _, ⟨_, rfl⟩, qz⟩
end
/-! ### o.f as a target -/
def gFld (K : PySem.W.Frag) (ta : TE) (f : Str) : TG := fun v σ H Q => ta σ H fun x H1 => ∃ a C dx fs, x = .ref a ∧ H1 a = some (.ins C dx fs) ∧ Cls K C ∧ NoAttr K C f ∧ fs.length < 1000 ∧ Q σ (upd H1 a (.ins C dx (putF f v fs)))
theorem pg_fld {X : Cx} {o : Expr} {f : Str} {pos : Pos} {ta : TE} (ha : PE X o ta) (hs : ∀ v, assign (.Attribute o f pos) X.env v = (do
      let ov ← holding [v] (eval o X.env)
      standAt pos
      holding [v, ov] (setAttr ov f v)
      release [v, ov] []) := by intro _; rfl) : PG X (.Attribute o f pos) (gFld X.K ta f) := by
  refine ⟨fun pins s σ H v u Q I r h => ?_⟩
  rw [hs]
  refine wpAny_bind (wpAny_holding (thn (ha.run pins s σ H _ I h) fun ov s1 ⟨x, H1, I1, r1, a, C, dx, fs, ex, ea, c, n, l, q⟩ => ?_))
  subst ex
  obtain rfl : ov = Value.ref a := r1
  refine wpAny_bind (wpAny_standAt (wpAny_bind (wpAny_holding (setattr_ok I1 ea c n l r fun s2 I2 => ?_))))
  exact wpAny_release ⟨σ, _, I2, q⟩
/-! ### a power of any base -/
theorem op_powW {X : Cx} : OpR X (binaryOp .Pow) (rI (fun i j => 0 ≤ j ∧ (Builtin.Int.intBits i : Int) * j ≤ 2 ^ 27) fun i j => .int (i ^ j.toNat)) := opI fun _ _ _ _ _ _ _ hc q => pow_int hc.1 hc.2 q
/-! ### a dict with None and whole numbers as keys, truth values as values -/
def lfO : Option Int → Leaf
  | none => .none
  | some i => .num i
def PhiN (P : Program) (w : World) (a : Addr) (S : Option Int → Option Bool) (n : Nat) : Heap → Prop := fun h => (a == sysModules) = false ∧ ∃ vs : List (Leaf × Value), vs.length ≤ n ∧ n ≤ sizeLine ∧ h.DictOf (leafKind P w) a vs ∧ ∀ o, valueAt vs (lfO o) = (S o).map Value.bool
def NoneD (P : Program) (w : World) (a : Addr) (S : Option Int → Option Bool) (n : Nat) : HO := .ext (PhiN P w a S n)
theorem noneD_at {P : Program} {w : World} {a : Addr} {S : Option Int → Option Bool} {n : Nat} {h1 h2 : Heap} (x : PhiN P w a S n h1) (k : ∀ o, h1.get? a = some o → h2.get? a = some o) : PhiN P w a S n h2 := by
  obtain ⟨hs, vs, h1, h2, h3, h4⟩ := x
  exact ⟨hs, vs, h1, h2, h3.at k, h4⟩
theorem noneD_ok {P : Program} {w : World} {H : Hp} {h : Heap} {a : Addr} {S : Option Int → Option Bool} {n : Nat} (x : PhiN P w a S n h) : ObjOk P w H h a (NoneD P w a S n) := by
  refine ⟨x, ?_, fun h1 h2 y k => noneD_at y k⟩
  obtain ⟨_, vs, _, _, ⟨q, _, _, hq, _⟩, _⟩ := x
  exact ⟨q, hq⟩
theorem lf_is {P : Program} {w : World} {o : Option Int} {u : Value} (r : RelV (oV o) u) : (leafKind P w).is (lfO o) u = true := by
  cases o with
  | none => cases r; exact leaf_none
  | some i => obtain ⟨t, rfl⟩ := r; exact leaf_int i t
theorem lfO_inj {a b : Option Int} (h : lfO a = lfO b) : a = b := by
  cases a <;> cases b <;> simp [lfO] at h <;> first | rfl | (subst h; rfl)
section
variable {X : Cx}
def tDispN (P : Program) (w : World) (b : Bool) : TE := fun _ H Q => ∀ p, H p = none → Q (.ref p) (upd H p (NoneD P w p (fun o => if o = none then some b else none) 1))
theorem pe_dispN {b : Bool} {j1 j2 : Nat} {p1 p2 pos : Pos} : PE X (.Dict [some (.Constant .none j1 p1)] [.Constant (.bool b) j2 p2] pos) (tDispN X.prog X.w b) := by
  refine ⟨fun pins s σ H Q I h => ?_⟩
  have hn := I.hok.fresh (Nat.le_refl s.heap.objs.size)
  have hs0 : (s.heap.objs.size == sysModules) = false := beq_eq_false_iff_ne.mpr (Ne.symm (Nat.ne_of_lt I.big))
  refine wpAny_Dict_walk (knd := leafKind X.prog X.w) rfl rfl (by simp) (by simp) ?_
  refine pairTrees_cons_walk (Constant_none (Constant_bool (pairTrees_nil_walk ?_)))
  refine ⟨[(.none, .bool b)], ⟨leaf_none, rfl, True.intro⟩, Heap.DictOf.new s.heap, fun h' dd hs => ?_⟩
  refine ⟨.ref s.heap.objs.size, _, ?_, rfl, h _ hn⟩
  have e : merged [] [((Leaf.none, Value.bool b) : Leaf × Value)] = [(.none, .bool b)] := by rfl
  rw [e] at dd
  refine I.laid (h' := h') (fun c o q => ?_) (Nat.le_refl _) (noneD_ok ⟨hs0, _, Nat.le_refl _, by decide, dd, fun o => ?_⟩)
  · have : c ≠ s.heap.objs.size := Nat.ne_of_lt (Heap.lt_size q)
    exact (hs.2 c this).trans (Heap.get?_push_of_some _ q)
  · rw [valueAt_cons, valueAt_nil]
    cases o with
    | none => rfl
    | some i => simp [lfO]
def tGetN (P : Program) (w : World) (td ty tx : TE) : TE := fun σ H Q => td σ H fun x H1 => ∃ a S n, x = .ref a ∧ H1 a = some (NoneD P w a S n) ∧ ty σ H1 fun y H2 => tx σ H2 fun z H3 => ∃ S n o b, H3 a = some (NoneD P w a S n) ∧ y = oV o ∧ z = .bl b ∧ Q (.bl ((S o).getD b)) H3
theorem pe_getN {o e f : Expr} {apos cpos : Pos} {td ty tx : TE} (ho : PE X o td) (he : PE X e ty) (hf : PE X f tx) (m : M2 X o "get" apos e f cpos) : PE X (.Call (.Attribute o "get" apos) [e, f] [] cpos) (tGetN X.prog X.w td ty tx) := by
  refine ⟨fun pins s σ H Q I h => ?_⟩
  refine wpAny_Call_method m.base m.few m.line PySem.F.plainAttrs_dict PySem.F.slot_dict_get PySem.F.type_dict_get (thn (ho.run pins s σ H _ I h) fun u s1 ⟨x, H1, I1, rx, a, S, n, ex, ha, q1⟩ => ?_)
  subst ex
  obtain rfl : u = Value.ref a := rx
  obtain ⟨⟨hs, vs, _, _, dd, _⟩, _, _⟩ : ObjOk X.prog X.w H1 s1.heap a (NoneD X.prog X.w a S n) := I1.hok a _ ha
  refine ⟨dd.typeIs, fun b q => ?_, ?_⟩
  · cases q
    obtain ⟨ob, _, _, h1, h2, _⟩ := dd
    exact ⟨ob, h1, h2.2.1⟩
  rw [m.trees]
  refine Calls.callWith_builtin rfl (Calls.evalArgs_plain (Calls.spliced_cons (thn (he.run pins s1 σ H1 _ I1 q1) fun iv s2 ⟨y, H2, I2, ry, q2⟩ =>
    Calls.spliced_cons (thn (hf.run pins s2 σ H2 _ I2 q2) fun fv s3 ⟨z, H3, I3, rz, S', n', k, b, ha', ey, ez, q3⟩ => Calls.spliced_nil ?_))))
  subst ey ez
  cases rz
  obtain ⟨⟨hs', vs', _, _, dd', hv'⟩, _, _⟩ : ObjOk X.prog X.w H3 s3.heap a (NoneD X.prog X.w a S' n') := I3.hok a _ ha'
  refine call_meetsIn PySem.F.slot_dict_get dd'.typeIs PySem.F.entry_dict_get (PySem.F.args_dict_get_3 _ _ _) (meets_dict_get_default (leafKind X.prog X.w) a (lf_is ry) hs' _) ⟨_, dd'.mapOf, ?_⟩
  refine ⟨_, H3, I3.tok _, ?_, q3⟩
  rw [hv' k]
  cases S' k <;> rfl
def sPutN (P : Program) (w : World) (td ty tv : TE) : TS := fun D σ H => tv σ H fun v H1 => td σ H1 fun x H2 => ty σ H2 fun y H3 => ∃ a S n o b, x = .ref a ∧ v = .bl b ∧ y = oV o ∧ H3 a = some (NoneD P w a S n) ∧ n < sizeLine ∧ D.nx σ (upd H3 a (NoneD P w a (fun k => if k = o then some b else S k) (n + 1)))
theorem ps_putN {o i value : Expr} {td ty tv : TE} {pos pos' : Pos} (ho : PE X o td) (hi : PE X i ty) (hv : PE X value tv) (hs : swapsWith value (some (.Subscript o i pos')) pos.line X.env = pure false) :
    PS X (.Assign [.Subscript o i pos'] value pos) (sPutN X.prog X.w td ty tv) := by
  refine ⟨fun pins s σ H D I h => ?_⟩
  refine wpAny_Assign_Subscript (thn (hv.run pins s σ H _ I h) fun r s1 ⟨v, H1, I1, rv, q1⟩ => thn (ho.run pins s1 σ H1 _ I1 q1) fun u s2 ⟨x, H2, I2, rx, q2⟩ => thn (hi.run pins s2 σ H2 _ I2 q2) fun iv s3 ⟨y, H3, I3, ry, a, S, n, k, b, ex, ev, ey, ha, hn, q3⟩ => ?_) hs
  subst ex ev ey
  obtain rfl : u = Value.ref a := rx
  cases rv
  obtain ⟨⟨hs', vs', h1, h2, dd', hv'⟩, _, _⟩ : ObjOk X.prog X.w H3 s3.heap a (NoneD X.prog X.w a S n) := I3.hok a _ ha
  refine wpAny_setItem_pairs (hsz := by omega) (lf_is ry) dd' fun h' dd hsb => ⟨σ, _, ?_, q3⟩
  have he : ∃ q, h'.get? a = some q := let ⟨q, _, _, hq, _⟩ := dd; ⟨q, hq⟩
  refine d_write I3 (by rw [ha]; exact True.intro) hsb he (noneD_ok ⟨hs', _, ?_, hn, dd, fun o' => ?_⟩)
  · rw [length_stored]; split <;> omega
  · rw [valueAt_stored]
    by_cases e : o' = k
    · subst e
      rw [if_pos rfl]
      show some (Value.bool b) = Option.map Value.bool (if o' = o' then some b else S o')
      rw [if_pos rfl]; rfl
    · rw [if_neg (fun z => e (lfO_inj z))]
      show _ = Option.map Value.bool (if o' = k then some b else S o')
      rw [if_neg e]; exact hv' o'
end
end L3
end

section
set_option Elab.async false
set_option linter.all false
set_option maxRecDepth 100000
set_option maxHeartbeats 4000000
namespace L3
open PySem PySem.Spec PyProof.Rows L2
/-! ### a tuple of one thing, n times (n may be 1: the tuple itself) -/
theorem tuple_mul1 (l : Addr) (items : Array Value) (n : Nat) (dd : Option Addr) (sl : Array (Option Value)) (u : Tok) :
    Meets (Builtin.«tuple.__mul__» ⟨[.ref l, .int 1 u], []⟩) (fun _ R s => s.heap.get? l = some { cls := .type "tuple", dict := dd, data := .seq items n, slots := sl } ∧
      R (.ok (.ret (Value.ref l))) s) :=
  .of_wp fun prog w A R s h => by
    obtain ⟨hp, g, d, tk, os⟩ := s
    obtain ⟨hl, h⟩ := h
    have f1 := AutoSeq1.idx_int
    have c1 : (items.isEmpty || (1 : Int) == 1) = true := by simp
    have c0 : (decide ((1 : Int) < -(2 ^ 63)) || decide ((1 : Int) ≥ 2 ^ 63)) = false := by decide
    wp_walk using wpAny_loadPart' hl
    repeat (first
      | (refine wpAny_ite_false (decide_eq_false (by rw [c0]; exact Bool.false_ne_true)) ?_; wp_walk using wpAny_loadPart' hl)
      | (refine wpAny_ite_true (decide_eq_true (by rw [c1])) ?_; wp_walk using wpAny_loadPart' hl))
    exact ⟨_, rfl, h⟩
def rRepN (K : PySem.W.Frag) : R2 := fun x y H Q => ∃ l k z, x = .ref l ∧ y = .int k ∧ SqT K H l [z] ∧ 1 ≤ k ∧ k ≤ 1000 ∧ (k = 1 → Q (.ref l) H) ∧ (2 ≤ k → ∀ p, H p = none → Q (.ref p) (upd H p (.tup (List.replicate k.toNat z))))
theorem flat_one (z : V) : ∀ k, (List.replicate k [z]).flatten = List.replicate k z := fun k => by
  induction k with
  | zero => rfl
  | succ k ih => rw [List.replicate_succ, List.flatten_cons, ih, List.replicate_succ]; rfl
section
variable {X : Cx}
theorem op_repN : OpR X (binaryOp .Mult) (rRepN X.K) := by
  intro pins s σ H x y v u Q I rx ry h
  obtain ⟨l, k, z, rfl, rfl, hT, h1, h2, q1, q2⟩ := h
  by_cases e : k = 1
  · subst e
    cases rx
    obtain ⟨t, rfl⟩ := ry
    obtain ⟨its, r, ⟨⟨cls, dd, data, sl⟩, ho, hc, n, hd⟩, hs⟩ := I.tuple hT
    simp only at hc hd
    subst hc hd
    refine wpAny_binaryOp_repeat_ref (T := "tuple") (U := "int") (by decide) ⟨_, ho, rfl⟩ (fun s' => typeIs_int s' 1 t) noFill_tuple_mul F.fills_int_mul F.slot_int_rmul repeat_tuple F.slot_int_index.lookup
      (call_meets F.slot_int_rmul (typeIs_int s 1 t) F.entry_int_rmul (F.args_int_rmul_2 _ _) (int_rmul_tuple 1 t l its.toArray n dd sl)
        ⟨ho, rfl, ⟨_, ho, rfl⟩, call_meets F.slot_tuple_mul ⟨_, ho, rfl⟩ F.entry_tuple_mul (F.args_tuple_mul_2 _ _) (tuple_mul1 l its.toArray n dd sl t) ⟨ho, ?_⟩⟩)
    exact ⟨.ref l, H, I, rfl, q1 rfl⟩
  · refine op_repT pins s σ H _ _ v u Q I rx ry ⟨l, k, [z], rfl, rfl, hT, by simp, by omega, h2, by simp, fun p hp => ?_⟩
    rw [flat_one]
    exact q2 (by omega) p hp
/-! ### C(..), C a class in a local -/
variable {CX : CXT} {k i : Nat} {f C : Addr} {fd : FuncData} {ps : List Str} {sp : Sp} {E : XK} {x m : Str} {p pos apos : Pos} {e o : Expr} {es : List Expr} {ta : TE} {t : TA}
def tMakeL (i : Nat) (C : Addr) (sp : Sp) (E : XK) (t : TA) : TE := fun σ H Q => σ[i]? = some (some (.ref C)) ∧ t σ H fun vs H1 => ∀ x dx, H1 x = none → H1 dx = none → dx ≠ x →
  sp (.ref x :: (vs ++ [])) (upd (upd H1 dx (.own x)) x (.ins C dx [])) (fun v H2 => v = .non ∧ Q (.ref x) H2) E
theorem pe_makeL (i : Nat) (M : Mk X.K C f) (F : FnOk X.prog X.w X.K X.mg X.base CX k f fd ps sp) (hr : Room (k + 1) X.A) (hb : Binds X.K fd ps []) (hx : Passes CX X E) (ha : PA X (e :: es) t)
    (hN : X.N[i]? = some x := by rfl) (hv : Vis X.env.scope x := by first | exact Or.inl rfl | exact Or.inr (Or.inl rfl) | exact Or.inr (Or.inr rfl)) (hdb : (x == ("__debug__" : Str)) = false := by decide) (hcd : (x == ("__classdict__" : Str)) = false := by decide)
    (he : starEach (e :: es) X.env = (false, eval e X.env) :: starEach es X.env := by rfl) (hpl : (backTo pos (starEach es X.env)).any (·.1) = false := by rfl) : PE X (.Call (.Name x p) (e :: es) [] pos) (tMakeL i C sp E t) := by
  refine ⟨fun pins s σ H Q I h => ?_⟩
  obtain ⟨hs, ht⟩ := h
  refine wpAny_Call_Name_kw (thn ((pe_var (pos := p) hN hv hdb hcd).run pins s σ H (fun v H1 => v = .ref C ∧ H1 = H) I ⟨.ref C, hs, rfl, rfl⟩) fun u s1 ⟨v, H1, I1, r1, q1⟩ => ?_)
  obtain ⟨rfl, rfl⟩ := q1
  cases r1
  refine PySem.W.callWith_K (h₀ := X.base) I.ok.mod.kin M.kp (thn (ha.run pos pins s1 σ _ _ I1 ht) fun us s2 ⟨vs, H2, I2, r, q⟩ => ⟨I2.kIn, ?_⟩) he hpl
  exact run_make M F hr hb .nil hx I2 r q
/-! ### o.m() by a positional promise -/
theorem pe_methR0 {pl : Sem Bool} (he : PE X o ta) (c : Cls X.K C) (hm : Meth X.K C m f)
    (F : FnR X.prog X.w X.K X.mg X.base CX k f sp) (hr : Room k X.A) (hx : Passes CX X E)
    (ht : eval (.Call (.Attribute o m apos) [] [] pos) X.env = (do
      let ov ← eval o X.env
      standAt apos.atName
      let (f, first) ← holding [ov] (getMethod ov m pl)
      callWith pos f first (backTo pos (starEach [] X.env)) (backToKw pos (keywordEach [] X.env))) := by rfl) :
    PE X (.Call (.Attribute o m apos) [] [] pos) (tMethR C m sp E ta tNil) := by
  refine ⟨fun pins s σ H Q I h => ?_⟩
  refine PySem.W.methodCall_KW (pl := pl) (thn (he.run pins s σ H _ I h) fun u s1 ⟨x, H1, I1, rx, a, dx, fs, ex, ea, l, q⟩ => ?_) ht
  subst ex
  obtain rfl : u = Value.ref a := rx
  refine getmeth_ok I1 ea c hm l ?_
  exact PySem.W.callWith_K0 (first := [.ref a]) I1.kIn hm.kp (wpAny_call (run_fnR (us := [.ref a]) (vs := [.ref a]) F hr hx I1 (.cons rfl .nil) q))
end
end L3
end

section
set_option Elab.async false
set_option linter.all false
set_option maxRecDepth 100000
set_option maxHeartbeats 4000000
namespace MV
open PySem PySem.Spec PyProof.Rows L2 L3
def top (i : Nat) : Stmt := PySem.Challenge.pw_movingup_k93_whole_offices_and_changes.main.body.getD i (.Pass ⟨0, 0, 0, 0⟩)
structure Ad where
  (T C R O S : Addr)
/-! promises by the number of arguments -/
def sp1 (A : V → Hp → VK → Prop) : Sp := fun vs H Q _ => match vs with | [x] => A x H Q | _ => False
def sp2 (A : V → V → Hp → VK → Prop) : Sp := fun vs H Q _ => match vs with | [x, y] => A x y H Q | _ => False
def sp3 (A : V → V → V → Hp → VK → Prop) : Sp := fun vs H Q _ => match vs with | [x, y, z] => A x y z H Q | _ => False
def sp4 (A : V → V → V → V → Hp → VK → Prop) : Sp := fun vs H Q _ => match vs with | [x, y, z, u] => A x y z u H Q | _ => False
theorem sp1_inv {A : V → Hp → VK → Prop} {vs H Q E} (h : sp1 A vs H Q E) : ∃ x, vs = [x] ∧ A x H Q := by
  match vs, h with
  | [x], h => exact ⟨x, rfl, h⟩
theorem sp2_inv {A : V → V → Hp → VK → Prop} {vs H Q E} (h : sp2 A vs H Q E) : ∃ x y, vs = [x, y] ∧ A x y H Q := by
  match vs, h with
  | [x, y], h => exact ⟨x, y, rfl, h⟩
theorem sp3_inv {A : V → V → V → Hp → VK → Prop} {vs H Q E} (h : sp3 A vs H Q E) : ∃ x y z, vs = [x, y, z] ∧ A x y z H Q := by
  match vs, h with
  | [x, y, z], h => exact ⟨x, y, z, rfl, h⟩
theorem sp4_inv {A : V → V → V → V → Hp → VK → Prop} {vs H Q E} (h : sp4 A vs H Q E) : ∃ x y z u, vs = [x, y, z, u] ∧ A x y z u H Q := by
  match vs, h with
  | [x, y, z, u], h => exact ⟨x, y, z, u, rfl, h⟩
/-! facts of the top -/
abbrev FnP (K : PySem.W.Frag) (x q : Str) (st : Stmt) (f : Addr) (fd : FuncData) : Prop := FunD K x q (defArgs st) (defBody st) (defScope st) [] [] f fd
def Dn (K : PySem.W.Frag) (mg : Str → Option Value) (x : Str) (st : Stmt) : Prop := ∃ f fd, mg x = some (.ref f) ∧ FnP K x x st f fd
def Dm (K : PySem.W.Frag) (Cs : Addr → Prop) (m q : Str) (st : Stmt) : Prop := ∃ f fd, (∀ C, Cs C → Meth K C m f) ∧ FnP K m q st f fd
def Dc (K : PySem.W.Frag) (mg : Str → Option Value) (x : Str) (C : Addr) (q : Str) (st : Stmt) : Prop := mg x = some (.ref C) ∧ ∃ f fd, Mk K C f ∧ FnP K "__init__" q st f fd
def Dp_ (K : PySem.W.Frag) (Cs : Addr → Prop) (m q : Str) (st : Stmt) : Prop := ∃ p f fd, (∀ C, Cs C → PropOf K C m p f) ∧ FnP K m q st f fd
/-! proved defs -/
def Gf (P : Program) (w : World) (K : PySem.W.Frag) (mg : Str → Option Value) (base : Heap) (k : Nat) (x : Str) (ps : List Str) (sp : Sp) : Prop :=
  ∃ f fd, mg x = some (.ref f) ∧ PySem.W.keepIn K (.ref f) = true ∧ Binds K fd ps [] ∧ FnOk P w K mg base CX0 k f fd ps sp
def Mf (P : Program) (w : World) (K : PySem.W.Frag) (mg : Str → Option Value) (base : Heap) (k : Nat) (Cs : Addr → Prop) (m : Str) (ps : List Str) (sp : Sp) : Prop :=
  ∃ f fd, (∀ C, Cs C → Meth K C m f) ∧ Binds K fd ps [] ∧ FnOk P w K mg base CX0 k f fd ps sp
def Cf (P : Program) (w : World) (K : PySem.W.Frag) (mg : Str → Option Value) (base : Heap) (k : Nat) (x : Str) (C : Addr) (ps : List Str) (sp : Sp) : Prop :=
  mg x = some (.ref C) ∧ ∃ f fd, Mk K C f ∧ Binds K fd ps [] ∧ FnOk P w K mg base CX0 k f fd ps sp
def Pf (P : Program) (w : World) (K : PySem.W.Frag) (mg : Str → Option Value) (base : Heap) (k : Nat) (Cs : Addr → Prop) (m : Str) (ps : List Str) (sp : Sp) : Prop :=
  ∃ p f fd, (∀ C, Cs C → PropOf K C m p f) ∧ Binds K fd ps [] ∧ FnOk P w K mg base CX0 k f fd ps sp
section
variable {X : Cx} {k k' : Nat} {C : Addr} {Cs : Addr → Prop} {ps : List Str} {sp : Sp} {x m : Str} {p pos apos : Pos} {e o : Expr} {es : List Expr} {ta : TE} {t : TA}
theorem pe_g (G : Gf X.prog X.w X.K X.mg X.base k x ps sp) (hr : Room k' X.A) (ha : PA X (e :: es) t) (hg : Gl X x := by rfl) (hk : k ≤ k' := by decide)
    (hdb : (x == ("__debug__" : Str)) = false := by decide) (he : starEach (e :: es) X.env = (false, eval e X.env) :: starEach es X.env := by rfl) (hpl : (backTo pos (starEach es X.env)).any (·.1) = false := by rfl) :
    PE X (.Call (.Name x p) (e :: es) [] pos) (tCall sp [] E0 t) := by
  obtain ⟨f, fd, hm, hkp, hb, F⟩ := G
  exact pe_call F (hr.mono hk) hg hm hkp hb .nil pass0 ha hdb he hpl
theorem pe_mk (G : Cf X.prog X.w X.K X.mg X.base k x C ps sp) (hr : Room k' X.A) (ha : PA X (e :: es) t) (hg : Gl X x := by rfl) (hk : k + 1 ≤ k' := by decide)
    (hdb : (x == ("__debug__" : Str)) = false := by decide) (he : starEach (e :: es) X.env = (false, eval e X.env) :: starEach es X.env := by rfl) (hpl : (backTo pos (starEach es X.env)).any (·.1) = false := by rfl) :
    PE X (.Call (.Name x p) (e :: es) [] pos) (tMake C sp [] E0 t) := by
  obtain ⟨hm, f, fd, M, hb, F⟩ := G
  exact pe_make M F (hr.mono hk) hg hm hb .nil pass0 ha hdb he hpl
theorem pe_m {pl : Sem Bool} (G : Mf X.prog X.w X.K X.mg X.base k Cs m ps sp) (hC : Cs C) (c : Cls X.K C) (hr : Room k' X.A) (he : PE X o ta) (ha : PA X (e :: es) t) (hk : k ≤ k' := by decide)
    (hst : starEach (e :: es) X.env = (false, eval e X.env) :: starEach es X.env := by rfl) (hpl : (backTo pos (starEach es X.env)).any (·.1) = false := by rfl)
    (ht : eval (.Call (.Attribute o m apos) (e :: es) [] pos) X.env = (do
      let ov ← eval o X.env
      standAt apos.atName
      let (f, first) ← holding [ov] (getMethod ov m pl)
      callWith pos f first (backTo pos (starEach (e :: es) X.env)) (backToKw pos (keywordEach [] X.env))) := by rfl) :
    PE X (.Call (.Attribute o m apos) (e :: es) [] pos) (tMeth C m sp [] E0 ta t) := by
  obtain ⟨f, fd, hm, hb, F⟩ := G
  exact pe_meth he c (hm C hC) F (hr.mono hk) hb .nil pass0 ha hst hpl ht
theorem pe_m0 {pl : Sem Bool} (G : Mf X.prog X.w X.K X.mg X.base k Cs m ps sp) (hC : Cs C) (c : Cls X.K C) (hr : Room k' X.A) (he : PE X o ta) (hk : k ≤ k' := by decide)
    (ht : eval (.Call (.Attribute o m apos) [] [] pos) X.env = (do
      let ov ← eval o X.env
      standAt apos.atName
      let (f, first) ← holding [ov] (getMethod ov m pl)
      callWith pos f first (backTo pos (starEach [] X.env)) (backToKw pos (keywordEach [] X.env))) := by rfl) :
    PE X (.Call (.Attribute o m apos) [] [] pos) (tMeth C m sp [] E0 ta tNil) := by
  obtain ⟨f, fd, hm, hb, F⟩ := G
  exact pe_meth0 he c (hm C hC) F (hr.mono hk) hb .nil pass0 ht
theorem pe_p (G : Pf X.prog X.w X.K X.mg X.base k Cs m ps sp) (hC : Cs C) (c : Cls X.K C) (hr : Room k' X.A) (he : PE X o ta) (hk : k + 1 ≤ k' := by decide)
    (hab : attributeBase o m X.env (eval o X.env) = eval o X.env := by rfl) :
    PE X (.Attribute o m pos) (tProp C sp [] E0 ta) := by
  obtain ⟨q, f, fd, hm, hb, F⟩ := G
  exact pe_prop he c (hm C hC) F (hr.mono hk) hb .nil pass0 hab

end
section
variable {P : Program} {w : World} {K : PySem.W.Frag} {mg : Str → Option Value} {base : Heap} {k : Nat} {x m q : Str} {st : Stmt} {N ps : List Str} {p1 p2 p3 p4 : Str} {sp : Sp} {C : Addr} {Cs : Addr → Prop}
/-- what a def's body has to do -/
abbrev Bd (P : Program) (w : World) (K : PySem.W.Frag) (mg : Str → Option Value) (base : Heap) (k : Nat) (N : List Str) (q : Str) (st : Stmt) (vs : List V) (Pre : Hp → VK → Prop) : Prop :=
  ∀ (f : Addr) (cdv : Value) (A : Around) (outer : List Env) (s : Shared) (E : XK) (H : Hp) (Q : VK), Room k (A.deeper (envOfC q (defScope st) s.heap.objs.size f cdv)) → Pre H Q →
    ∃ t, PSs (cxOf CX0 P w K mg base N q (defScope st) f cdv A outer s H E).nox (defBody st) t ∧ t { nx := fun _ H' => Q .non H', rt := Q } (start N vs) H
abbrev Hb (ps : List Str) (x q : Str) (st : Stmt) : Prop := ∀ (kV doc pm : Value) (an : Option Addr) (cdv ct : Value) (us : List Value), us.length = ps.length → bindArgs (PySem.W.fnOf x q (defArgs st) (defBody st) (defScope st) .none kV doc pm an cdv ct) ⟨us, []⟩ = pure (ps.zip us)
theorem fn1 {A1 : V → Hp → VK → Prop} {f : Addr} {fd : FuncData} (D : FnP K x q st f fd) (S : FnScope N [p1] (defScope st)) (body : ∀ v1, Bd P w K mg base k N q st [v1] (A1 v1)) : FnOk P w K mg base CX0 (k + 1) f fd [p1] (sp1 A1) := by
  refine D.ok S (fun vs H Q E h => ?_) (fun cdv A outer s H vs Q E hr h => ?_)
  · obtain ⟨v, rfl, _⟩ := sp1_inv h; rfl
  · obtain ⟨v, rfl, h⟩ := sp1_inv h; obtain ⟨t, h1, h2⟩ := body v f cdv A outer s E H Q hr h; exact ⟨t, PSs.nox h1, h2⟩
theorem fn2 {A1 : V → V → Hp → VK → Prop} {f : Addr} {fd : FuncData} (D : FnP K x q st f fd) (S : FnScope N [p1, p2] (defScope st)) (body : ∀ v1 v2, Bd P w K mg base k N q st [v1, v2] (A1 v1 v2)) : FnOk P w K mg base CX0 (k + 1) f fd [p1, p2] (sp2 A1) := by
  refine D.ok S (fun vs H Q E h => ?_) (fun cdv A outer s H vs Q E hr h => ?_)
  · obtain ⟨v, v2, rfl, _⟩ := sp2_inv h; rfl
  · obtain ⟨v, v2, rfl, h⟩ := sp2_inv h; obtain ⟨t, h1, h2⟩ := body v v2 f cdv A outer s E H Q hr h; exact ⟨t, PSs.nox h1, h2⟩
theorem fn3 {A1 : V → V → V → Hp → VK → Prop} {f : Addr} {fd : FuncData} (D : FnP K x q st f fd) (S : FnScope N [p1, p2, p3] (defScope st)) (body : ∀ v1 v2 v3, Bd P w K mg base k N q st [v1, v2, v3] (A1 v1 v2 v3)) : FnOk P w K mg base CX0 (k + 1) f fd [p1, p2, p3] (sp3 A1) := by
  refine D.ok S (fun vs H Q E h => ?_) (fun cdv A outer s H vs Q E hr h => ?_)
  · obtain ⟨v, v2, v3, rfl, _⟩ := sp3_inv h; rfl
  · obtain ⟨v, v2, v3, rfl, h⟩ := sp3_inv h; obtain ⟨t, h1, h2⟩ := body v v2 v3 f cdv A outer s E H Q hr h; exact ⟨t, PSs.nox h1, h2⟩
theorem fn4 {A1 : V → V → V → V → Hp → VK → Prop} {f : Addr} {fd : FuncData} (D : FnP K x q st f fd) (S : FnScope N [p1, p2, p3, p4] (defScope st)) (body : ∀ v1 v2 v3 v4, Bd P w K mg base k N q st [v1, v2, v3, v4] (A1 v1 v2 v3 v4)) : FnOk P w K mg base CX0 (k + 1) f fd [p1, p2, p3, p4] (sp4 A1) := by
  refine D.ok S (fun vs H Q E h => ?_) (fun cdv A outer s H vs Q E hr h => ?_)
  · obtain ⟨v, v2, v3, v4, rfl, _⟩ := sp4_inv h; rfl
  · obtain ⟨v, v2, v3, v4, rfl, h⟩ := sp4_inv h; obtain ⟨t, h1, h2⟩ := body v v2 v3 v4 f cdv A outer s E H Q hr h; exact ⟨t, PSs.nox h1, h2⟩
/-! defs with a star -/
def Rf (P : Program) (w : World) (K : PySem.W.Frag) (mg : Str → Option Value) (base : Heap) (k : Nat) (x : Str) (sp : Sp) : Prop := ∃ f, mg x = some (.ref f) ∧ PySem.W.keepIn K (.ref f) = true ∧ FnR P w K mg base CX0 k f sp
def starSp (n : Nat) (sp : List V → Hp → VK → Prop) : Sp := fun vs H Q _ => ∃ ws rest, vs = ws ++ rest ∧ ws.length = n ∧ rest.length ≤ sizeLine ∧ ∀ p, H p = none → sp (ws ++ [V.ref p]) (upd H p (.tup rest)) Q
abbrev HbS (ps : List Str) (pv : Str) (x q : Str) (st : Stmt) : Prop := ∀ (kV doc pm : Value) (an : Option Addr) (cdv ct : Value) (us rest : List Value), us.length = ps.length → bindArgs (PySem.W.fnOf x q (defArgs st) (defBody st) (defScope st) .none kV doc pm an cdv ct) ⟨us ++ rest, []⟩ = (newTuple rest >>= fun t => pure (ps.zip us ++ [(pv, t)]))
theorem fr_star {pv : Str} {f : Addr} {fd : FuncData} {sp1 : List V → Hp → VK → Prop} (F : FnP K x q st f fd) (S : FnScope N (ps ++ [pv]) (defScope st)) (hb : HbS ps pv x q st) (body : ∀ vs, Bd P w K mg base k N q st vs (sp1 vs)) :
    FnR P w K mg base CX0 (k + 1) f (starSp ps.length sp1) := by
  obtain ⟨oc, od, dV, kV, doc, pm, an, cdv, ct, osl, rfl, lk, hcd, hD, hK⟩ := F.ex
  rcases hD with ⟨_, rfl⟩ | ⟨e, _⟩
  · exact StX.fn_star (sp := fun vs H Q _ => sp1 vs H Q) lk hcd S StX.cxUp_none (hb kV doc pm an cdv ct) (fun A outer s H vs Q E hr h => by
      obtain ⟨t, h1, h2⟩ := body vs f cdv A outer s E H Q hr h
      exact ⟨t, PSs.nox h1, h2⟩)
  · exact absurd rfl e
theorem rf_star {pv : Str} {sp1 : List V → Hp → VK → Prop} (D : Dn K mg x st) (S : FnScope N (ps ++ [pv]) (defScope st)) (hb : HbS ps pv x x st) (body : ∀ vs, Bd P w K mg base k N x st vs (sp1 vs)) :
    Rf P w K mg base (k + 1) x (starSp ps.length sp1) := by
  obtain ⟨f, fd, hm, F⟩ := D
  exact ⟨f, hm, F.kp, fr_star F S hb body⟩
theorem gf1 {A1 : V → Hp → VK → Prop} (D : Dn K mg x st) (S : FnScope N [p1] (defScope st)) (hb : Hb [p1] x x st) (body : ∀ v1, Bd P w K mg base k N x st [v1] (A1 v1)) : Gf P w K mg base (k + 1) x [p1] (sp1 A1) := by
  obtain ⟨f, fd, hm, F⟩ := D
  exact ⟨f, fd, hm, F.kp, F.bindsN hb, fn1 F S body⟩
theorem mf1 {A1 : V → Hp → VK → Prop} (D : Dm K Cs m q st) (S : FnScope N [p1] (defScope st)) (hb : Hb [p1] m q st) (body : ∀ v1, Bd P w K mg base k N q st [v1] (A1 v1)) : Mf P w K mg base (k + 1) Cs m [p1] (sp1 A1) := by
  obtain ⟨f, fd, hm, F⟩ := D
  exact ⟨f, fd, hm, F.bindsN hb, fn1 F S body⟩
theorem cf1 {A1 : V → Hp → VK → Prop} (D : Dc K mg x C q st) (S : FnScope N [p1] (defScope st)) (hb : Hb [p1] "__init__" q st) (body : ∀ v1, Bd P w K mg base k N q st [v1] (A1 v1)) : Cf P w K mg base (k + 1) x C [p1] (sp1 A1) := by
  obtain ⟨hm, f, fd, M, F⟩ := D
  exact ⟨hm, f, fd, M, F.bindsN hb, fn1 F S body⟩
theorem pf1 {A1 : V → Hp → VK → Prop} (D : Dp_ K Cs m q st) (S : FnScope N [p1] (defScope st)) (hb : Hb [p1] m q st) (body : ∀ v1, Bd P w K mg base k N q st [v1] (A1 v1)) : Pf P w K mg base (k + 1) Cs m [p1] (sp1 A1) := by
  obtain ⟨p, f, fd, hm, F⟩ := D
  exact ⟨p, f, fd, hm, F.bindsN hb, fn1 F S body⟩
theorem gf2 {A1 : V → V → Hp → VK → Prop} (D : Dn K mg x st) (S : FnScope N [p1, p2] (defScope st)) (hb : Hb [p1, p2] x x st) (body : ∀ v1 v2, Bd P w K mg base k N x st [v1, v2] (A1 v1 v2)) : Gf P w K mg base (k + 1) x [p1, p2] (sp2 A1) := by
  obtain ⟨f, fd, hm, F⟩ := D
  exact ⟨f, fd, hm, F.kp, F.bindsN hb, fn2 F S body⟩
theorem mf2 {A1 : V → V → Hp → VK → Prop} (D : Dm K Cs m q st) (S : FnScope N [p1, p2] (defScope st)) (hb : Hb [p1, p2] m q st) (body : ∀ v1 v2, Bd P w K mg base k N q st [v1, v2] (A1 v1 v2)) : Mf P w K mg base (k + 1) Cs m [p1, p2] (sp2 A1) := by
  obtain ⟨f, fd, hm, F⟩ := D
  exact ⟨f, fd, hm, F.bindsN hb, fn2 F S body⟩
theorem cf2 {A1 : V → V → Hp → VK → Prop} (D : Dc K mg x C q st) (S : FnScope N [p1, p2] (defScope st)) (hb : Hb [p1, p2] "__init__" q st) (body : ∀ v1 v2, Bd P w K mg base k N q st [v1, v2] (A1 v1 v2)) : Cf P w K mg base (k + 1) x C [p1, p2] (sp2 A1) := by
  obtain ⟨hm, f, fd, M, F⟩ := D
  exact ⟨hm, f, fd, M, F.bindsN hb, fn2 F S body⟩
theorem gf3 {A1 : V → V → V → Hp → VK → Prop} (D : Dn K mg x st) (S : FnScope N [p1, p2, p3] (defScope st)) (hb : Hb [p1, p2, p3] x x st) (body : ∀ v1 v2 v3, Bd P w K mg base k N x st [v1, v2, v3] (A1 v1 v2 v3)) : Gf P w K mg base (k + 1) x [p1, p2, p3] (sp3 A1) := by
  obtain ⟨f, fd, hm, F⟩ := D
  exact ⟨f, fd, hm, F.kp, F.bindsN hb, fn3 F S body⟩
theorem mf3 {A1 : V → V → V → Hp → VK → Prop} (D : Dm K Cs m q st) (S : FnScope N [p1, p2, p3] (defScope st)) (hb : Hb [p1, p2, p3] m q st) (body : ∀ v1 v2 v3, Bd P w K mg base k N q st [v1, v2, v3] (A1 v1 v2 v3)) : Mf P w K mg base (k + 1) Cs m [p1, p2, p3] (sp3 A1) := by
  obtain ⟨f, fd, hm, F⟩ := D
  exact ⟨f, fd, hm, F.bindsN hb, fn3 F S body⟩
theorem cf3 {A1 : V → V → V → Hp → VK → Prop} (D : Dc K mg x C q st) (S : FnScope N [p1, p2, p3] (defScope st)) (hb : Hb [p1, p2, p3] "__init__" q st) (body : ∀ v1 v2 v3, Bd P w K mg base k N q st [v1, v2, v3] (A1 v1 v2 v3)) : Cf P w K mg base (k + 1) x C [p1, p2, p3] (sp3 A1) := by
  obtain ⟨hm, f, fd, M, F⟩ := D
  exact ⟨hm, f, fd, M, F.bindsN hb, fn3 F S body⟩
theorem gf4 {A1 : V → V → V → V → Hp → VK → Prop} (D : Dn K mg x st) (S : FnScope N [p1, p2, p3, p4] (defScope st)) (hb : Hb [p1, p2, p3, p4] x x st) (body : ∀ v1 v2 v3 v4, Bd P w K mg base k N x st [v1, v2, v3, v4] (A1 v1 v2 v3 v4)) : Gf P w K mg base (k + 1) x [p1, p2, p3, p4] (sp4 A1) := by
  obtain ⟨f, fd, hm, F⟩ := D
  exact ⟨f, fd, hm, F.kp, F.bindsN hb, fn4 F S body⟩
theorem mf4 {A1 : V → V → V → V → Hp → VK → Prop} (D : Dm K Cs m q st) (S : FnScope N [p1, p2, p3, p4] (defScope st)) (hb : Hb [p1, p2, p3, p4] m q st) (body : ∀ v1 v2 v3 v4, Bd P w K mg base k N q st [v1, v2, v3, v4] (A1 v1 v2 v3 v4)) : Mf P w K mg base (k + 1) Cs m [p1, p2, p3, p4] (sp4 A1) := by
  obtain ⟨f, fd, hm, F⟩ := D
  exact ⟨f, fd, hm, F.bindsN hb, fn4 F S body⟩
theorem cf4 {A1 : V → V → V → V → Hp → VK → Prop} (D : Dc K mg x C q st) (S : FnScope N [p1, p2, p3, p4] (defScope st)) (hb : Hb [p1, p2, p3, p4] "__init__" q st) (body : ∀ v1 v2 v3 v4, Bd P w K mg base k N q st [v1, v2, v3, v4] (A1 v1 v2 v3 v4)) : Cf P w K mg base (k + 1) x C [p1, p2, p3, p4] (sp4 A1) := by
  obtain ⟨hm, f, fd, M, F⟩ := D
  exact ⟨hm, f, fd, M, F.bindsN hb, fn4 F S body⟩

abbrev s_is_whole : Stmt := top 12
theorem sc_is_whole : FnScope ["value"] ["value"] (defScope s_is_whole) := ⟨rfl, rfl, rfl, by decide +kernel, rfl, by decide +kernel, by decide +kernel⟩
abbrev s_chart_fault : Stmt := top 13
theorem sc_chart_fault : FnScope ["value", "post", "above"] ["value"] (defScope s_chart_fault) := ⟨rfl, rfl, rfl, by decide +kernel, rfl, by decide +kernel, by decide +kernel⟩
abbrev s_require_chart : Stmt := top 14
theorem sc_require_chart : FnScope ["chart", "reason"] ["chart"] (defScope s_require_chart) := ⟨rfl, rfl, rfl, by decide +kernel, rfl, by decide +kernel, by decide +kernel⟩
abbrev s_is_person : Stmt := top 17
theorem sc_is_person : FnScope ["value"] ["value"] (defScope s_is_person) := ⟨rfl, rfl, rfl, by decide +kernel, rfl, by decide +kernel, by decide +kernel⟩
abbrev s_first_fault : Stmt := top 18
theorem sc_first_fault : FnScope ["word", "faults", "index", "fault"] ["word", "faults"] (defScope s_first_fault) := ⟨rfl, rfl, rfl, by decide +kernel, rfl, by decide +kernel, by decide +kernel⟩
abbrev s_repeats : Stmt := top 19
theorem sc_repeats : FnScope ["items", "seen", "found", "item"] ["items"] (defScope s_repeats) := ⟨rfl, rfl, rfl, by decide +kernel, rfl, by decide +kernel, by decide +kernel⟩
abbrev s_is_out_of_order : Stmt := top 20
theorem sc_is_out_of_order : FnScope ["chart", "value", "post", "upper"] ["chart", "value", "post"] (defScope s_is_out_of_order) := ⟨rfl, rfl, rfl, by decide +kernel, rfl, by decide +kernel, by decide +kernel⟩
abbrev s_arrangement_fault : Stmt := top 21
theorem sc_arrangement_fault : FnScope ["chart", "value", "reason", "person", "post"] ["chart", "value"] (defScope s_arrangement_fault) := ⟨rfl, rfl, rfl, by decide +kernel, rfl, by decide +kernel, by decide +kernel⟩
abbrev s_require_arrangement : Stmt := top 22
theorem sc_require_arrangement : FnScope ["chart", "arrangement", "reason"] ["chart", "arrangement"] (defScope s_require_arrangement) := ⟨rfl, rfl, rfl, by decide +kernel, rfl, by decide +kernel, by decide +kernel⟩
abbrev s_posts_of_people : Stmt := top 23
theorem sc_posts_of_people : FnScope ["arrangement", "post", "person"] ["arrangement"] (defScope s_posts_of_people) := ⟨rfl, rfl, rfl, by decide +kernel, rfl, by decide +kernel, by decide +kernel⟩
abbrev s_require_holder : Stmt := top 24
theorem sc_require_holder : FnScope ["arrangement", "person"] ["arrangement", "person"] (defScope s_require_holder) := ⟨rfl, rfl, rfl, by decide +kernel, rfl, by decide +kernel, by decide +kernel⟩
abbrev s_is_open : Stmt := top 25
theorem sc_is_open : FnScope ["tree", "rows", "post"] ["tree", "rows", "post"] (defScope s_is_open) := ⟨rfl, rfl, rfl, by decide +kernel, rfl, by decide +kernel, by decide +kernel⟩
abbrev s_move_up : Stmt := top 26
theorem sc_move_up : FnScope ["tree", "rows", "post", "held", "lower", "person"] ["tree", "rows", "post"] (defScope s_move_up) := ⟨rfl, rfl, rfl, by decide +kernel, rfl, by decide +kernel, by decide +kernel⟩
abbrev s_leave_one : Stmt := top 27
theorem sc_leave_one : FnScope ["tree", "rows", "person", "post", "lower"] ["tree", "rows", "person"] (defScope s_leave_one) := ⟨rfl, rfl, rfl, by decide +kernel, rfl, by decide +kernel, by decide +kernel⟩
abbrev s_join_one : Stmt := top 28
theorem sc_join_one : FnScope ["tree", "rows", "person", "post", "path", "people", "upper", "holder"] ["tree", "rows", "person", "post"] (defScope s_join_one) := ⟨rfl, rfl, rfl, by decide +kernel, rfl, by decide +kernel, by decide +kernel⟩
abbrev s_open_posts : Stmt := top 29
theorem sc_open_posts : FnScope ["chart", "arrangement", "tree", "post"] ["chart", "arrangement"] (defScope s_open_posts) := ⟨rfl, rfl, rfl, by decide +kernel, rfl, by decide +kernel, by decide +kernel⟩
abbrev s_leave : Stmt := top 30
theorem sc_leave : FnScope ["chart", "arrangement", "people", "seen", "person", "tree", "rows"] ["chart", "arrangement", "people"] (defScope s_leave) := ⟨rfl, rfl, rfl, by decide +kernel, rfl, by decide +kernel, by decide +kernel⟩
abbrev s_join : Stmt := top 32
theorem sc_join : FnScope ["chart", "arrangement", "person", "post", "tree", "rows"] ["chart", "arrangement", "person", "post"] (defScope s_join) := ⟨rfl, rfl, rfl, by decide +kernel, rfl, by decide +kernel, by decide +kernel⟩
abbrev s_is_step : Stmt := top 34
theorem sc_is_step : FnScope ["chart", "value"] ["chart", "value"] (defScope s_is_step) := ⟨rfl, rfl, rfl, by decide +kernel, rfl, by decide +kernel, by decide +kernel⟩
abbrev s_plan_fault : Stmt := top 35
theorem sc_plan_fault : FnScope ["chart", "value", "index", "step"] ["chart", "value"] (defScope s_plan_fault) := ⟨rfl, rfl, rfl, by decide +kernel, rfl, by decide +kernel, by decide +kernel⟩
abbrev s_step_possible : Stmt := top 36
theorem sc_step_possible : FnScope ["tree", "rows", "step", "person", "post"] ["tree", "rows", "step"] (defScope s_step_possible) := ⟨rfl, rfl, rfl, by decide +kernel, rfl, by decide +kernel, by decide +kernel⟩
abbrev s_make_step : Stmt := top 37
theorem sc_make_step : FnScope ["tree", "rows", "step", "person", "post"] ["tree", "rows", "step"] (defScope s_make_step) := ⟨rfl, rfl, rfl, by decide +kernel, rfl, by decide +kernel, by decide +kernel⟩
abbrev s_play_on : Stmt := top 39
theorem sc_play_on : FnScope ["tree", "rows", "plan", "index", "step"] ["tree", "rows", "plan"] (defScope s_play_on) := ⟨rfl, rfl, rfl, by decide +kernel, rfl, by decide +kernel, by decide +kernel⟩
abbrev s_play : Stmt := top 40
theorem sc_play : FnScope ["chart", "arrangement", "plan", "fault", "rows", "index"] ["chart", "arrangement", "plan"] (defScope s_play) := ⟨rfl, rfl, rfl, by decide +kernel, rfl, by decide +kernel, by decide +kernel⟩
abbrev s_change_of : Stmt := top 43
theorem sc_change_of : FnScope ["chart", "before", "after"] ["chart", "before", "after"] (defScope s_change_of) := ⟨rfl, rfl, rfl, by decide +kernel, rfl, by decide +kernel, by decide +kernel⟩
abbrev s_fewest_changes : Stmt := top 44
theorem sc_fewest_changes : FnScope ["chart", "before", "after"] ["chart", "before", "after"] (defScope s_fewest_changes) := ⟨rfl, rfl, rfl, by decide +kernel, rfl, by decide +kernel, by decide +kernel⟩
abbrev s_smallest_open : Stmt := top 49
theorem sc_smallest_open : FnScope ["chart", "arrangement", "post", "person"] ["chart", "arrangement"] (defScope s_smallest_open) := ⟨rfl, rfl, rfl, by decide +kernel, rfl, by decide +kernel, by decide +kernel⟩
abbrev s_law_cell : Stmt := top 51
theorem sc_law_cell : FnScope ["_law_script", "_law_index"] ["_law_script", "_law_index"] (defScope s_law_cell) := ⟨rfl, rfl, rfl, by decide +kernel, rfl, by decide +kernel, by decide +kernel⟩
abbrev s_law_hash : Stmt := top 52
theorem sc_law_hash : FnScope ["_law_seed", "_law_index", "_law_mixed"] ["_law_seed", "_law_index"] (defScope s_law_hash) := ⟨rfl, rfl, rfl, by decide +kernel, rfl, by decide +kernel, by decide +kernel⟩
abbrev s_law_generator : Stmt := top 53
theorem sc_law_generator : FnScope ["_law_script", "_law_index", "_law_seed"] ["_law_script", "_law_index"] (defScope s_law_generator) := ⟨rfl, rfl, rfl, by decide +kernel, rfl, by decide +kernel, by decide +kernel⟩
abbrev s_law_random : Stmt := top 54
theorem sc_law_random : FnScope ["_law_generator_here", "_law_bound", "_law_drawn", "_law_part"] ["_law_generator_here", "_law_bound"] (defScope s_law_random) := ⟨rfl, rfl, rfl, by decide +kernel, rfl, by decide +kernel, by decide +kernel⟩
abbrev s_law_shuffled : Stmt := top 55
theorem sc_law_shuffled : FnScope ["_law_generator_here", "_law_items", "_law_pool", "_law_item"] ["_law_generator_here", "_law_items"] (defScope s_law_shuffled) := ⟨rfl, rfl, rfl, by decide +kernel, rfl, by decide +kernel, by decide +kernel⟩
abbrev s_law_random_chart : Stmt := top 56
theorem sc_law_random_chart : FnScope ["_law_generator_here", "_law_most", "_law_size", "_law_kind", "_law_chart", "_law_post", "_law_above"] ["_law_generator_here", "_law_most"] (defScope s_law_random_chart) := ⟨rfl, rfl, rfl, by decide +kernel, rfl, by decide +kernel, by decide +kernel⟩
abbrev s_law_open : Stmt := top 57
theorem sc_law_open : FnScope ["_law_chart", "_law_rows", "_law_found", "_law_post", "_law_above"] ["_law_chart", "_law_rows"] (defScope s_law_open) := ⟨rfl, rfl, rfl, by decide +kernel, rfl, by decide +kernel, by decide +kernel⟩
abbrev s_law_people : Stmt := top 58
theorem sc_law_people : FnScope ["_law_rows", "_law_person"] ["_law_rows"] (defScope s_law_people) := ⟨rfl, rfl, rfl, by decide +kernel, rfl, by decide +kernel, by decide +kernel⟩
abbrev s_law_random_people : Stmt := top 59
theorem sc_law_random_people : FnScope ["_law_generator_here", "_law_count", "_law_people_here", "_law_number", "_law_index"] ["_law_generator_here", "_law_count"] (defScope s_law_random_people) := ⟨rfl, rfl, rfl, by decide +kernel, rfl, by decide +kernel, by decide +kernel⟩
abbrev s_law_filled : Stmt := top 60
theorem sc_law_filled : FnScope ["_law_generator_here", "_law_chart", "_law_people_here", "_law_rows", "_law_person", "_law_places", "_law_place"] ["_law_generator_here", "_law_chart", "_law_people_here"] (defScope s_law_filled) := ⟨rfl, rfl, rfl, by decide +kernel, rfl, by decide +kernel, by decide +kernel⟩
abbrev s_law_random_arrangement : Stmt := top 61
theorem sc_law_random_arrangement : FnScope ["_law_generator_here", "_law_chart", "_law_size", "_law_count"] ["_law_generator_here", "_law_chart"] (defScope s_law_random_arrangement) := ⟨rfl, rfl, rfl, by decide +kernel, rfl, by decide +kernel, by decide +kernel⟩
abbrev s_law_is_correct : Stmt := top 62
theorem sc_law_is_correct : FnScope ["_law_chart", "_law_before", "_law_after", "_law_office", "_law_plan", "_law_people_here", "_law_states", "_law_person", "_law_shown", "_law_state"] ["_law_chart", "_law_before", "_law_after"] (defScope s_law_is_correct) := ⟨rfl, rfl, rfl, by decide +kernel, rfl, by decide +kernel, by decide +kernel⟩
abbrev s_law_strict_is_correct : Stmt := top 63
theorem sc_law_strict_is_correct : FnScope ["_law_chart", "_law_people_here", "_law_office", "_law_person", "_law_post", "_law_same"] ["_law_chart", "_law_people_here"] (defScope s_law_strict_is_correct) := ⟨rfl, rfl, rfl, by decide +kernel, rfl, by decide +kernel, by decide +kernel⟩
abbrev s_law : Stmt := top 64
theorem sc_law : FnScope ["_law_script", "_law_index", "_law_generator_here", "_law_chart", "_law_before", "_law_after", "_law_people_here"] ["_law_script"] (defScope s_law) := ⟨rfl, rfl, rfl, by decide +kernel, rfl, by decide +kernel, by decide +kernel⟩
abbrev s_Tree_path : Stmt := inClass (top 15) 1
theorem sc_Tree_path : FnScope ["self", "post", "posts"] ["self", "post"] (defScope s_Tree_path) := ⟨rfl, rfl, rfl, by decide +kernel, rfl, by decide +kernel, by decide +kernel⟩
abbrev s_Tree_common : Stmt := inClass (top 15) 3
theorem sc_Tree_common : FnScope ["self", "a", "b"] ["self", "a", "b"] (defScope s_Tree_common) := ⟨rfl, rfl, rfl, by decide +kernel, rfl, by decide +kernel, by decide +kernel⟩
abbrev s_Change_first_after : Stmt := inClass (top 42) 1
theorem sc_Change_first_after : FnScope ["self", "post", "senior", "person"] ["self", "post", "senior"] (defScope s_Change_first_after) := ⟨rfl, rfl, rfl, by decide +kernel, rfl, by decide +kernel, by decide +kernel⟩
abbrev s_Change_staying : Stmt := inClass (top 42) 2
theorem sc_Change_staying : FnScope ["self", "found", "waiting", "post", "senior", "person", "below"] ["self"] (defScope s_Change_staying) := ⟨rfl, rfl, rfl, by decide +kernel, rfl, by decide +kernel, by decide +kernel⟩
abbrev s_Change_leaving_steps : Stmt := inClass (top 42) 5
theorem sc_Change_leaving_steps : FnScope ["self", "staying", "person"] ["self"] (defScope s_Change_leaving_steps) := ⟨rfl, rfl, rfl, by decide +kernel, rfl, by decide +kernel, by decide +kernel⟩
abbrev s_Change_joining_steps : Stmt := inClass (top 42) 6
theorem sc_Change_joining_steps : FnScope ["self", "staying", "rows", "steps", "person"] ["self"] (defScope s_Change_joining_steps) := ⟨rfl, rfl, rfl, by decide +kernel, rfl, by decide +kernel, by decide +kernel⟩
abbrev s_Change_plan : Stmt := inClass (top 42) 7
theorem sc_Change_plan : FnScope ["self"] ["self"] (defScope s_Change_plan) := ⟨rfl, rfl, rfl, by decide +kernel, rfl, by decide +kernel, by decide +kernel⟩
abbrev s_Trial_enter : Stmt := inClass (top 46) 1
theorem sc_Trial_enter : FnScope ["self"] ["self"] (defScope s_Trial_enter) := ⟨rfl, rfl, rfl, by decide +kernel, rfl, by decide +kernel, by decide +kernel⟩
abbrev s_Trial_exit : Stmt := inClass (top 46) 2
theorem sc_Trial_exit : FnScope ["self", "kind", "value", "trace"] ["self", "kind", "value", "trace"] (defScope s_Trial_exit) := ⟨rfl, rfl, rfl, by decide +kernel, rfl, by decide +kernel, by decide +kernel⟩
abbrev s_Office_put : Stmt := inClass (top 47) 8
theorem sc_Office_put : FnScope ["self", "arrangement", "steps"] ["self", "arrangement", "steps"] (defScope s_Office_put) := ⟨rfl, rfl, rfl, by decide +kernel, rfl, by decide +kernel, by decide +kernel⟩
abbrev s_Office_play : Stmt := inClass (top 47) 11
theorem sc_Office_play : FnScope ["self", "plan"] ["self", "plan"] (defScope s_Office_play) := ⟨rfl, rfl, rfl, by decide +kernel, rfl, by decide +kernel, by decide +kernel⟩
abbrev s_Office_undo : Stmt := inClass (top 47) 12
theorem sc_Office_undo : FnScope ["self", "count"] ["self"] (defScope s_Office_undo) := ⟨rfl, rfl, rfl, by decide +kernel, rfl, by decide +kernel, by decide +kernel⟩
abbrev s_Office_preview : Stmt := inClass (top 47) 13
theorem sc_Office_preview : FnScope ["self", "people", "office"] ["self", "people"] (defScope s_Office_preview) := ⟨rfl, rfl, rfl, by decide +kernel, rfl, by decide +kernel, by decide +kernel⟩
abbrev s_Office_rehearse : Stmt := inClass (top 47) 14
theorem sc_Office_rehearse : FnScope ["self", "plan", "office"] ["self", "plan"] (defScope s_Office_rehearse) := ⟨rfl, rfl, rfl, by decide +kernel, rfl, by decide +kernel, by decide +kernel⟩
abbrev s_Office_log : Stmt := inClass (top 47) 15
theorem sc_Office_log : FnScope ["self"] ["self"] (defScope s_Office_log) := ⟨rfl, rfl, rfl, by decide +kernel, rfl, by decide +kernel, by decide +kernel⟩
abbrev s_Office_len : Stmt := inClass (top 47) 21
theorem sc_Office_len : FnScope ["self"] ["self"] (defScope s_Office_len) := ⟨rfl, rfl, rfl, by decide +kernel, rfl, by decide +kernel, by decide +kernel⟩
abbrev s_Office_contains : Stmt := inClass (top 47) 22
theorem sc_Office_contains : FnScope ["self", "person"] ["self", "person"] (defScope s_Office_contains) := ⟨rfl, rfl, rfl, by decide +kernel, rfl, by decide +kernel, by decide +kernel⟩
abbrev s_Office_eq : Stmt := inClass (top 47) 23
theorem sc_Office_eq : FnScope ["self", "other"] ["self", "other"] (defScope s_Office_eq) := ⟨rfl, rfl, rfl, by decide +kernel, rfl, by decide +kernel, by decide +kernel⟩
abbrev s_StrictOffice_admit : Stmt := inClass (top 48) 1
theorem sc_StrictOffice_admit : FnScope ["self", "person", "post", "arrangement"] ["self", "person", "post"] (defScope s_StrictOffice_admit) := ⟨rfl, rfl, rfl, by decide +kernel, rfl, by decide +kernel, by decide +kernel⟩
abbrev s_Tree_init : Stmt := inClass (top 15) 0
theorem sc_Tree_init : FnScope ["self", "chart", "post", "upper"] ["self", "chart"] (defScope s_Tree_init) := ⟨rfl, rfl, rfl, by decide +kernel, rfl, by decide +kernel, by decide +kernel⟩
abbrev s_Change_init : Stmt := inClass (top 42) 0
theorem sc_Change_init : FnScope ["self", "chart", "before", "after", "post", "person", "meeting"] ["self", "chart", "before", "after"] (defScope s_Change_init) := ⟨rfl, rfl, rfl, by decide +kernel, rfl, by decide +kernel, by decide +kernel⟩
abbrev s_Trial_init : Stmt := inClass (top 46) 0
theorem sc_Trial_init : FnScope ["self", "office"] ["self", "office"] (defScope s_Trial_init) := ⟨rfl, rfl, rfl, by decide +kernel, rfl, by decide +kernel, by decide +kernel⟩
abbrev s_Office_init : Stmt := inClass (top 47) 1
theorem sc_Office_init : FnScope ["self", "chart", "arrangement"] ["self", "chart", "arrangement"] (defScope s_Office_init) := ⟨rfl, rfl, rfl, by decide +kernel, rfl, by decide +kernel, by decide +kernel⟩
abbrev s_Office_arrangement : Stmt := inClass (top 47) 5
theorem sc_Office_arrangement : FnScope ["self"] ["self"] (defScope s_Office_arrangement) := ⟨rfl, rfl, rfl, by decide +kernel, rfl, by decide +kernel, by decide +kernel⟩
abbrev s_Office_people : Stmt := inClass (top 47) 6
theorem sc_Office_people : FnScope ["self", "person"] ["self"] (defScope s_Office_people) := ⟨rfl, rfl, rfl, by decide +kernel, rfl, by decide +kernel, by decide +kernel⟩
abbrev s_Office_head : Stmt := inClass (top 47) 7
theorem sc_Office_head : FnScope ["self"] ["self"] (defScope s_Office_head) := ⟨rfl, rfl, rfl, by decide +kernel, rfl, by decide +kernel, by decide +kernel⟩
abbrev s_Office_vacant : Stmt := inClass (top 47) 3
theorem sc_Office_vacant : FnScope ["cls", "chart"] ["cls", "chart"] (defScope s_Office_vacant) := ⟨rfl, rfl, rfl, by decide +kernel, rfl, by decide +kernel, by decide +kernel⟩
abbrev s_Office_leave : Stmt := inClass (top 47) 9
theorem sc_Office_leave : FnScope ["self", "people", "arrangement", "person"] ["self", "people"] (defScope s_Office_leave) := ⟨rfl, rfl, rfl, by decide +kernel, rfl, by decide +kernel, by decide +kernel⟩
def IsT (A : Ad) (C : Addr) : Prop := C = A.T
def IsC (A : Ad) (C : Addr) : Prop := C = A.C
def IsR (A : Ad) (C : Addr) : Prop := C = A.R
def IsF (A : Ad) (C : Addr) : Prop := C = A.O
def IsS (A : Ad) (C : Addr) : Prop := C = A.S
def IsO (A : Ad) (C : Addr) : Prop := C = A.O ∨ C = A.S
structure Fx (K : PySem.W.Frag) (mg : Str → Option Value) (A : Ad) : Prop where
  b_isinstance : mg "isinstance" = none
  b_len : mg "len" = none
  b_enumerate : mg "enumerate" = none
  b_min : mg "min" = none
  b_max : mg "max" = none
  b_sorted : mg "sorted" = none
  b_list : mg "list" = none
  b_tuple : mg "tuple" = none
  b_range : mg "range" = none
  b_zip : mg "zip" = none
  b_int : mg "int" = none
  b_bool : mg "bool" = none
  d_is_whole : Dn K mg "is_whole" s_is_whole
  d_chart_fault : Dn K mg "chart_fault" s_chart_fault
  d_require_chart : Dn K mg "require_chart" s_require_chart
  d_is_person : Dn K mg "is_person" s_is_person
  d_first_fault : Dn K mg "first_fault" s_first_fault
  d_repeats : Dn K mg "repeats" s_repeats
  d_is_out_of_order : Dn K mg "is_out_of_order" s_is_out_of_order
  d_arrangement_fault : Dn K mg "arrangement_fault" s_arrangement_fault
  d_require_arrangement : Dn K mg "require_arrangement" s_require_arrangement
  d_posts_of_people : Dn K mg "posts_of_people" s_posts_of_people
  d_require_holder : Dn K mg "require_holder" s_require_holder
  d_is_open : Dn K mg "is_open" s_is_open
  d_move_up : Dn K mg "move_up" s_move_up
  d_leave_one : Dn K mg "leave_one" s_leave_one
  d_join_one : Dn K mg "join_one" s_join_one
  d_open_posts : Dn K mg "open_posts" s_open_posts
  d_leave : Dn K mg "leave" s_leave
  d_join : Dn K mg "join" s_join
  d_is_step : Dn K mg "is_step" s_is_step
  d_plan_fault : Dn K mg "plan_fault" s_plan_fault
  d_step_possible : Dn K mg "step_possible" s_step_possible
  d_make_step : Dn K mg "make_step" s_make_step
  d_play_on : Dn K mg "play_on" s_play_on
  d_play : Dn K mg "play" s_play
  d_change_of : Dn K mg "change_of" s_change_of
  d_fewest_changes : Dn K mg "fewest_changes" s_fewest_changes
  d_smallest_open : Dn K mg "smallest_open" s_smallest_open
  d_law_cell : Dn K mg "_law_cell" s_law_cell
  d_law_hash : Dn K mg "_law_hash" s_law_hash
  d_law_generator : Dn K mg "_law_generator" s_law_generator
  d_law_random : Dn K mg "_law_random" s_law_random
  d_law_shuffled : Dn K mg "_law_shuffled" s_law_shuffled
  d_law_random_chart : Dn K mg "_law_random_chart" s_law_random_chart
  d_law_open : Dn K mg "_law_open" s_law_open
  d_law_people : Dn K mg "_law_people" s_law_people
  d_law_random_people : Dn K mg "_law_random_people" s_law_random_people
  d_law_filled : Dn K mg "_law_filled" s_law_filled
  d_law_random_arrangement : Dn K mg "_law_random_arrangement" s_law_random_arrangement
  d_law_is_correct : Dn K mg "_law_is_correct" s_law_is_correct
  d_law_strict_is_correct : Dn K mg "_law_strict_is_correct" s_law_strict_is_correct
  d_law : Dn K mg "law" s_law
  d_Tree_path : Dm K (IsT A) "path" "Tree.path" s_Tree_path
  d_Tree_common : Dm K (IsT A) "common" "Tree.common" s_Tree_common
  d_Change_first_after : Dm K (IsC A) "first_after" "Change.first_after" s_Change_first_after
  d_Change_staying : Dm K (IsC A) "staying" "Change.staying" s_Change_staying
  d_Change_leaving_steps : Dm K (IsC A) "leaving_steps" "Change.leaving_steps" s_Change_leaving_steps
  d_Change_joining_steps : Dm K (IsC A) "joining_steps" "Change.joining_steps" s_Change_joining_steps
  d_Change_plan : Dm K (IsC A) "plan" "Change.plan" s_Change_plan
  d_Trial_enter : Dm K (IsR A) "__enter__" "Trial.__enter__" s_Trial_enter
  d_Trial_exit : Dm K (IsR A) "__exit__" "Trial.__exit__" s_Trial_exit
  d_Office_put : Dm K (IsO A) "put" "Office.put" s_Office_put
  d_Office_play : Dm K (IsF A) "play" "Office.play" s_Office_play
  d_Office_undo : Dm K (IsF A) "undo" "Office.undo" s_Office_undo
  d_Office_preview : Dm K (IsF A) "preview" "Office.preview" s_Office_preview
  d_Office_rehearse : Dm K (IsF A) "rehearse" "Office.rehearse" s_Office_rehearse
  d_Office_log : Dm K (IsF A) "log" "Office.log" s_Office_log
  d_Office_len : Dm K (IsO A) "__len__" "Office.__len__" s_Office_len
  d_Office_contains : Dm K (IsO A) "__contains__" "Office.__contains__" s_Office_contains
  d_Office_eq : Dm K (IsO A) "__eq__" "Office.__eq__" s_Office_eq
  d_StrictOffice_admit : Dm K (IsS A) "admit" "StrictOffice.admit" s_StrictOffice_admit
  d_Tree_init : Dc K mg "Tree" A.T "Tree.__init__" s_Tree_init
  d_Change_init : Dc K mg "Change" A.C "Change.__init__" s_Change_init
  d_Trial_init : Dc K mg "Trial" A.R "Trial.__init__" s_Trial_init
  d_Office_init : Dc K mg "Office" A.O "Office.__init__" s_Office_init
  d_Office_arrangement : Dp_ K (IsO A) "arrangement" "Office.arrangement" s_Office_arrangement
  d_Office_people : Dp_ K (IsO A) "people" "Office.people" s_Office_people
  d_Office_head : Dp_ K (IsF A) "head" "Office.head" s_Office_head
  cl_T : Cls K A.T
  n_T_above : NoAttr K A.T "above"
  n_T_below : NoAttr K A.T "below"
  cl_R : Cls K A.R
  n_R_office : NoAttr K A.R "office"
  n_R_now : NoAttr K A.R "now"
  n_R_past : NoAttr K A.R "past"
  n_R_done : NoAttr K A.R "done"
  cl_O : Cls K A.O
  n_O_above : NoAttr K A.O "above"
  n_O_now : NoAttr K A.O "now"
  n_O_past : NoAttr K A.O "past"
  n_O_done : NoAttr K A.O "done"
  cl_S : Cls K A.S
  n_S_above : NoAttr K A.S "above"
  n_S_now : NoAttr K A.S "now"
  n_S_past : NoAttr K A.S "past"
  n_S_done : NoAttr K A.S "done"
  cl_C : Cls K A.C
  n_C_tree : NoAttr K A.C "tree"
  n_C_before : NoAttr K A.C "before"
  n_C_after : NoAttr K A.C "after"
  n_C_starts : NoAttr K A.C "starts"
  n_C_ends : NoAttr K A.C "ends"
  n_C_reaching : NoAttr K A.C "reaching"
  d_Office_leave : ∃ f fd, (∀ C, IsF A C → BMeth K C "leave" f) ∧ FnP K "leave" "Office.leave" s_Office_leave f fd
  d_Office_vacant : ∃ mc p g fd, ClX.CRead K A.S mc ∧ ClX.CMet K A.S mc "vacant" p g ∧ FnP K "vacant" "Office.vacant" s_Office_vacant g fd
  d_Strict_init : ∃ f fd, Mk K A.S f ∧ FnP K "__init__" "Office.__init__" s_Office_init f fd
  g_Strict : mg "StrictOffice" = some (.ref A.S)
  a_leave : mg "leave_arrangements" = mg "leave"
  a_play : mg "play_changes" = mg "play"
  neO : PySem.W.findIn K (.ref A.O) "__ne__" = some (some (.builtin "object.__ne__"))
  mroO : PySem.W.mroIn K A.O (.type "object") = some true
  nf_OO : PySem.W.notFirst K A.O (.ref A.O) = true
  nf_SO : PySem.W.notFirst K A.S (.ref A.O) = true
  isiO : ∀ {H : Hp} {a dx : Addr} {fs : List (Str × V)}, H a = some (.ins A.O dx fs) → TyOf K H (.ref a) (.ref A.O)
  kitO : PySem.W.kitOne K (.ref A.O) (.ref A.O) = some true
end
end MV
end

section
set_option Elab.async false
set_option autoImplicit false
set_option linter.all false
set_option maxRecDepth 100000
set_option maxHeartbeats 4000000
namespace MV
open PySem PySem.Spec PyProof.Rows L2 L3 MU PySem.W
/-! ### help -/
theorem ifT {b : Bool} {A B : Prop} (h : b = true) (x : A) : if b = true then A else B := by subst h; exact iteT x
theorem ifF {b : Bool} {A B : Prop} (h : b = false) (x : B) : if b = true then A else B := by subst h; exact iteF x
theorem ifTn {b : Bool} {A B : Prop} (h : b = false) (x : A) : if (!b) = true then A else B := by subst h; exact iteT x
theorem ifFn {b : Bool} {A B : Prop} (h : b = true) (x : B) : if (!b) = true then A else B := by subst h; exact iteF x
theorem eqP {X : Cx} {k : Nat} (α : Type) [DecidableEq α] [Datum α] (hr : Room k X.A) (hd : Datum.depth α ≤ 64) : OpR X (compareOp .Eq) (rEqP α X.K) := op_eqP (Nat.lt_of_le_of_lt (Nat.add_le_add_left hd _) hr.units)
theorem neP {X : Cx} {k : Nat} (α : Type) [DecidableEq α] [Datum α] (hr : Room k X.A) (hd : Datum.depth α ≤ 64) : OpR X (compareOp .NotEq) (rNeP α X.K) := op_neP (Nat.lt_of_le_of_lt (Nat.add_le_add_left hd _) hr.units)
theorem gpair {K : PySem.W.Frag} {i j : Nat} {T : Addr} {x y : V} {σ : L2.St} {H : Hp} {Q : L2.St → Hp → Prop} (h : H T = some (.tup [x, y])) (q : Q ((σ.set i (some x)).set j (some y)) H) : gTup K 2 (gCons (gName i) (gCons (gName j) gNil)) (.ref T) σ H Q :=
  ⟨T, _, rfl, SqT.of h, rfl, _, _, rfl, _, _, rfl, rfl, q⟩
/-! rules with the written part named (for comprehensions) -/
theorem ixLK (K : PySem.W.Frag) {X : Cx} (h : X.K = K := by rfl) : IxR X (rIxL K) := by subst h; exact ix_list
theorem ixTK (K : PySem.W.Frag) {X : Cx} (h : X.K = K := by rfl) : IxR X (rIxT K) := by subst h; exact ix_tup
theorem ixSK (K : PySem.W.Frag) {X : Cx} (h : X.K = K := by rfl) : IxR X (rIx K) := by subst h; exact ix_seq
theorem inK (K : PySem.W.Frag) {X : Cx} (h : X.K = K := by rfl) : OpR X (compareOp .In) (rIn K false) := by subst h; exact op_in_seq
theorem ninK (K : PySem.W.Frag) {X : Cx} (h : X.K = K := by rfl) : OpR X (compareOp .NotIn) (rIn K true) := by subst h; exact op_notIn_seq
theorem pe_fldK (K : PySem.W.Frag) {X : Cx} {e : Expr} {ta : TE} {f : Str} {pos : Pos} (he : PE X e ta) (hb : attributeBase e f X.env (eval e X.env) = eval e X.env := by rfl) (h : X.K = K := by rfl) : PE X (.Attribute e f pos) (tFld K ta f) := by subst h; exact pe_fld he hb
theorem lenK (K : PySem.W.Frag) {X : Cx} (h : X.K = K := by rfl) : CallR X (.builtin "len") (fun xs H Q => ∃ p ys, xs = [.ref p] ∧ (SqL K H p ys ∨ SqT K H p ys) ∧ Q (.int ys.length) H) := by subst h; exact call_len_seq
/-! ### values in the heap -/
def opl (n : Nat) (f : Nat → Option Int) : List (Option Int) := (List.range n).map f
def arV (n : Nat) (f : Nat → Option Int) : List V := (opl n f).map oV
def chO (par : Nat → Nat) : Nat → Option Int := fun k => if k = 0 then none else some (par k : Nat)
abbrev chV (n : Nat) (par : Nat → Nat) : List V := arV n (chO par)
theorem opl_len {n : Nat} {f : Nat → Option Int} : (opl n f).length = n := by simp [opl]
theorem arV_len {n : Nat} {f : Nat → Option Int} : (arV n f).length = n := by simp [arV, opl]
theorem opl_get {n : Nat} {f : Nat → Option Int} {k : Nat} (h : k < n) : (opl n f)[k]? = some (f k) := by simp [opl, h]
theorem arV_get {n : Nat} {f : Nat → Option Int} {k : Nat} (h : k < n) : (arV n f)[k]? = some (oV (f k)) := by simp [arV, opl, h]
theorem arV_at {n : Nat} {f : Nat → Option Int} {k : Nat} (h : k < n) : atI (arV n f) (k : Int) = some (oV (f k)) := atI_nat (arV_get h)
theorem arV_geti {n : Nat} {f : Nat → Option Int} {k : Nat} {y : V} (h : (arV n f)[k]? = some y) : k < n ∧ y = oV (f k) := by
  have h1 : k < n := by
    rcases Nat.lt_or_ge k n with h2 | h2
    · exact h2
    · rw [List.getElem?_eq_none (by rw [arV_len]; exact h2)] at h; cases h
  rw [arV_get h1] at h
  exact ⟨h1, (Option.some.inj h).symm⟩
theorem chO_pos {par : Nat → Nat} {k : Nat} (h : 0 < k) : chO par k = some (par k : Nat) := by unfold chO; rw [if_neg (by omega)]; rfl
theorem Same.refl' {H : Hp} : Same H H := fun _ _ e => e
theorem Same.tr {H1 H2 H3 : Hp} (a : Same H1 H2) (b : Same H2 H3) : Same H1 H3 := fun p o e => b p o (a p o e)
theorem Same.new {H : Hp} {p : Addr} {o : HO} (h : H p = none) : Same H (upd H p o) := fun b u e => by rw [upd_ne (ne_of_none e h)]; exact e
variable {P : Program} {w : World} {K : PySem.W.Frag} {mg : Str → Option Value} {base : Heap} {A : Ad}
/-! ### is_whole -/
abbrev sp_is_whole : Sp := sp1 fun x H Q => ∃ i, x = .int i ∧ Q (.bl (decide (0 ≤ i))) H
theorem g_is_whole (T : Fx K mg A) : Gf P w K mg base 1 "is_whole" ["value"] (sp_is_whole) := by
  refine gf1 T.d_is_whole sc_is_whole (fun _ _ _ _ _ _ us hl => match us, hl with | [_], _ => rfl) ?_
  rintro v f cdv A' outer s E H Q hr ⟨i, rfl, q⟩
  refine ⟨_, (pss_one (ps_ret (pe_and (pe_callB call_isi (by rfl) T.b_isinstance (by decide +kernel) (pa_cons (pv 0) (pa_cons (pe_bltn (v := .ty "int") (u := .type "int") (by rfl) T.b_int (by decide +kernel) rfl) pa_nil))) (pe_and (pe_not (pe_callB call_isi (by rfl) T.b_isinstance (by decide +kernel) (pa_cons (pv 0) (pa_cons (pe_bltn (v := .ty "bool") (u := .type "bool") (by rfl) T.b_bool (by decide +kernel) rfl) pa_nil)))) (pe_one (pe_cmpR op_ge (pv 0) pe_int (nomark _))))))), ?_⟩
  refine ⟨_, rfl, _, _, _, _, true, rfl, .ty _, .base (.int i), kit_ty (by decide +kernel), true, rfl, iteT ?_⟩
  refine ⟨_, rfl, _, _, _, _, false, rfl, .ty _, .base (.int i), kit_ty (by decide +kernel), false, rfl, true, rfl, iteT ?_⟩
  exact ⟨_, rfl, _, _, rfl, rfl, q⟩
/-! ### chart_fault -/
abbrev sp_chart_fault : Sp := sp1 fun x H Q => ∃ a n par, x = .ref a ∧ H a = some (.tup (chV n par)) ∧ TreeOk n par ∧ ∀ H', Same H H' → Q .non H'
theorem g_chart_fault (T : Fx K mg A) : Gf P w K mg base 2 "chart_fault" ["value"] (sp_chart_fault) := by
  refine gf1 T.d_chart_fault sc_chart_fault (fun _ _ _ _ _ _ us hl => match us, hl with | [_], _ => rfl) ?_
  rintro v f cdv A' outer s E H Q hr ⟨a, n, par, rfl, ha, ok, q⟩
  refine ⟨_, (pss_cons (ps_if (PW.pt (pw_or (pt_not (pt_val (pe_callB call_isi (by rfl) T.b_isinstance (by decide +kernel) (pa_cons (pv 0) (pa_cons (pe_bltn (v := .ty "tuple") (u := .type "tuple") (by rfl) T.b_tuple (by decide +kernel) rfl) pa_nil))))) (pw_or (pt_cmpR (eqP (Tup (Option Int)) hr (by decide)) (pv 0) (pe_tup pa_nil) (nomark _)) (pw_or1 (pt_cmpR op_notN (pe_ix ix_tup (pv 0) pe_int (fun _ _ => rfl)) pe_non (nomark _)))))) (pss_one (ps_ret (pe_tup (pa_cons pe_str pa_nil)))) pss_nil)
      (pss_cons (ps_for PassesOwn.never rfl (pi_enumT (by rfl) T.b_enumerate (pa_cons (pv 0) pa_nil)) (pg_tup rfl (pgs_cons (pg_name (i := 1) sc_chart_fault.nd rfl (by first | exact Or.inl rfl | exact Or.inr rfl)) (pgs_cons (pg_name (i := 2) sc_chart_fault.nd rfl (by first | exact Or.inl rfl | exact Or.inr rfl)) pgs_nil)))
      (pss_one (ps_if (PW.pt (pw_and (pt_cmpR op_gt (pv 1) pe_int (nomark _)) (pw_and1 (PW.pt (pw_or (pt_not (pt_val (pe_g (g_is_whole T) hr (pa_cons (pv 2) pa_nil)))) (pw_or1 (pt_cmpR op_ge (pv 2) (pv 1) (nomark _)))))))) (pss_one (ps_ret (pe_tup (pa_cons pe_str (pa_cons (pv 1) pa_nil))))) pss_nil)))
      (pss_one (ps_ret pe_non)))), ?_⟩
  refine ⟨_, rfl, _, _, _, _, true, rfl, .ty _, .base (.tup ha), kit_ty (by decide +kernel), true, rfl, ?_⟩
  refine ifF rfl ?_
  refine ⟨_, rfl, Nat.zero_le _, fun p hp => ⟨Tup.mk (opl n (chO par)), Tup.mk [], dp_opts (SqT.of (Same.new hp _ _ ha)), dp_opts (os := []) (SqT.of upd_same), _, rfl, ?_⟩⟩
  refine ifF (decide_eq_false fun e => by have := congrArg (fun t : Tup (Option Int) => t.items.length) e; simp [opl_len] at this; have := ok.pos; omega) ?_
  have h1 := Same.new (o := .tup []) hp
  refine ⟨_, rfl, a, _, 0, _, rfl, rfl, SqT.of (h1 _ _ ha), arV_at ok.pos, rfl, false, rfl, ?_⟩
  refine ifF rfl ?_
  refine ⟨_, rfl, a, _, rfl, SqT.of (h1 _ _ ha), ?_⟩
  refine for_it (walk_enumT (xs := chV n par)) (fun i σ H' => ∃ v1 v2, σ = [some (.ref a), v1, v2] ∧ Same H H') ⟨_, _, rfl, h1⟩ (fun i σ H' _ h => ?_) ?_ ?_
  · obtain ⟨v1, v2, rfl, h⟩ := h
    exact SqT.of (h _ _ ha)
  · rintro i x σ H1 H2 hi ⟨v1, v2, rfl, h⟩ ⟨T1, x1, y1, rfl, hT, rfl, e1, e2⟩
    cases e1
    obtain ⟨hin, rfl⟩ := arV_geti e2
    refine gpair upd_same ?_
    have h2 := Same.tr h (Same.new (o := .tup [.int (i : Nat), oV (chO par i)]) hT)
    refine ⟨_, rfl, _, _, rfl, rfl, _, rfl, ?_⟩
    by_cases i0 : i = 0
    · subst i0
      exact iteF ⟨_, _, rfl, h2⟩
    · refine ifT (decide_eq_true (by omega)) ?_
      rw [chO_pos (by omega)] at *
      refine ⟨_, rfl, _, rfl, _, rfl, ?_⟩
      refine ifFn (decide_eq_true (by omega)) ?_
      have := ok.lt i (by omega) hin
      refine ⟨_, rfl, _, rfl, _, _, rfl, rfl, _, rfl, ?_⟩
      refine ifF (decide_eq_false (by omega)) ?_
      exact ⟨_, _, rfl, h2⟩
  · rintro σ H1 ⟨v1, v2, rfl, h⟩
    exact q _ h
end MV
end

section
set_option Elab.async false
set_option autoImplicit false
set_option linter.all false
set_option maxRecDepth 100000
set_option maxHeartbeats 4000000
namespace MV
open PySem PySem.Spec PyProof.Rows L2 L3 MU PySem.W
variable {P : Program} {w : World} {K : PySem.W.Frag} {mg : Str → Option Value} {base : Heap} {A : Ad}
abbrev sp_require_chart : Sp := sp_chart_fault
theorem g_require_chart (T : Fx K mg A) : Gf P w K mg base 3 "require_chart" ["chart"] (sp_require_chart) := by
  refine gf1 T.d_require_chart sc_require_chart (fun _ _ _ _ _ _ us hl => match us, hl with | [_], _ => rfl) ?_
  rintro v f cdv A' outer s E H Q hr ⟨a, n, par, rfl, ha, ok, q⟩
  refine ⟨_, (pss_cons (ps_set (i := 1) sc_require_chart.nd rfl (by first | exact Or.inl rfl | exact Or.inr rfl) (pe_g (g_chart_fault T) hr (pa_cons (pv 0) pa_nil)))
      (pss_one (ps_if (pt_cmpR op_notN (pv 1) pe_non (nomark _)) pss_never pss_nil))), ?_⟩
  refine ⟨_, rfl, a, n, par, rfl, ha, ok, fun H' hs => ?_⟩
  exact ⟨_, rfl, rfl, _, rfl, iteF (q _ hs)⟩
/-! ### Tree -/
abbrev fT (a b : V) : List (Str × V) := [("above", a), ("below", b)]
theorem fT_1 (a : V) : putF "above" a [] = [(("above" : Str), a)] := rfl
theorem fT_2 (a b : V) : putF "below" b [(("above" : Str), a)] = fT a b := by kernel_rfl
theorem fT_above (a b : V) : (fT a b).lookup ("above" : Str) = some a := by kernel_rfl
theorem fT_below (a b : V) : (fT a b).lookup ("below" : Str) = some b := by kernel_rfl
def kidsU (par : Nat → Nat) (i k : Nat) : List Nat := (List.range i).filter fun j => decide (0 < j ∧ par j = k)
def natV (l : List Nat) : List V := l.map fun j => V.int (j : Nat)
structure TreeAt (A : Ad) (H : Hp) (t : Addr) (n : Nat) (par : Nat → Nat) : Prop where
  ok : TreeOk n par
  ex : ∃ dx a b, ∃ cs : List Addr, H t = some (.ins A.T dx (fT (.ref a) (.ref b))) ∧ H a = some (.tup (chV n par)) ∧ cs.length = n ∧ H b = some (.lst (cs.map V.ref)) ∧ ∀ k c, cs[k]? = some c → H c = some (.lst (natV (kidsU par n k)))
theorem TreeAt.same {A : Ad} {H H' : Hp} {t : Addr} {n : Nat} {par : Nat → Nat} (h : TreeAt A H t n par) (s : Same H H') : TreeAt A H' t n par := by
  obtain ⟨ok, dx, a, b, cs, h1, h2, h3, h4, h5⟩ := h
  exact ⟨ok, dx, a, b, cs, s _ _ h1, s _ _ h2, h3, s _ _ h4, fun k c e => s _ _ (h5 k c e)⟩
abbrev sp_Tree_init (A : Ad) : Sp := sp2 fun x y H Q => ∃ t dx a n par, x = .ref t ∧ y = .ref a ∧ H t = some (.ins A.T dx []) ∧ H a = some (.tup (chV n par)) ∧ TreeOk n par ∧
  ∀ H', (∀ b o, b ≠ t → H b = some o → H' b = some o) → TreeAt A H' t n par → (∃ HT, TreeAt A HT t n par ∧ Same HT H' ∧ ∀ b o, HT b = some o → b = t ∨ b = a ∨ H b = none) → Q .non H'
theorem g_Tree_init (T : Fx K mg A) : Cf P w K mg base 1 "Tree" A.T ["self", "chart"] (sp_Tree_init A) := by
  refine cf2 T.d_Tree_init sc_Tree_init (fun _ _ _ _ _ _ us hl => match us, hl with | [_, _], _ => rfl) ?_
  rintro v1 v2 f cdv A' outer s E H Q hr ⟨t, dx, a, n, par, rfl, rfl, ht, ha, ok, q⟩
  refine ⟨_, (pss_cons (ps_fld (pv 0) (pv 1) rfl)
      (pss_cons (ps_fld (pv 0) (pe_lc (own := [("post", 2)]) (g := gName 2) (tt := tYes) rfl sc_Tree_init.nd (pi_tup (pv 1)) (blkOk_by (N := ["self", "chart", "post", "upper"]) (sc := defScope s_Tree_init) (by decide +kernel)) (fun _ _ _ _ _ => pg_name (i := 2) sc_Tree_init.nd rfl (by first | exact Or.inl rfl | exact Or.inr rfl)) (fun _ _ _ _ _ => pts_nil) (fun _ _ _ _ _ => (pe_lst pa_nil))) rfl)
      (pss_one (ps_for PassesOwn.never rfl (pi_enumT (by rfl) T.b_enumerate (pa_cons (pv 1) pa_nil)) (pg_tup rfl (pgs_cons (pg_name (i := 2) sc_Tree_init.nd rfl (by first | exact Or.inl rfl | exact Or.inr rfl)) (pgs_cons (pg_name (i := 3) sc_Tree_init.nd rfl (by first | exact Or.inl rfl | exact Or.inr rfl)) pgs_nil)))
      (pss_one (ps_if (pt_cmpR op_notN (pv 3) pe_non (nomark _)) (pss_one (ps_expr (pe_bm PySem.F.plainAttrs_list PySem.F.slot_list_append PySem.F.type_list_append mt_append (pe_ix ix_list (pe_fld (pv 0) rfl) (pv 3) (fun _ _ => rfl)) (pa_cons (pv 2) pa_nil)))) pss_nil)))))), ?_⟩
  refine ⟨_, rfl, _, rfl, t, _, dx, _, rfl, ht, T.cl_T, T.n_T_above, (by decide), ?_⟩
  rw [fT_1]
  have hta : a ≠ t := by rintro rfl; rw [ht] at ha; cases ha
  let H0 := upd H t (.ins A.T dx [("above", .ref a)])
  have k0 : ∀ b o, b ≠ t → H b = some o → H0 b = some o := fun b o hb e => by show upd _ _ _ _ = _; rw [upd_ne hb]; exact e
  have ha0 : H0 a = some (.tup (chV n par)) := k0 _ _ hta ha
  refine ⟨_, rfl, a, rfl, ⟨_, SqT.of ha0⟩, fun D hD => ?_⟩
  refine lc_it (walk_tup (xs := chV n par)) (fun i H' => ∃ cs : List Addr, cs.length = i ∧ H' D = some (.lst (cs.map V.ref)) ∧ (∀ c ∈ cs, H' c = some (.lst []) ∧ c ≠ D ∧ H0 c = none) ∧ (∀ k l c, cs[k]? = some c → cs[l]? = some c → k = l) ∧ Same H0 H')
    ⟨[], rfl, upd_same, (fun c hc => nomatch hc), (fun k l c (e : ([] : List Addr)[k]? = some c) _ => by rw [List.getElem?_nil] at e; cases e), Same.new hD⟩ ?_ ?_ ?_
  · rintro i H' hi ⟨cs, _, _, _, _, hs⟩
    exact SqT.of (hs _ _ ha0)
  · rintro i x H1 H2 hi ⟨cs, hl, h1, h2, h3, hs⟩ ⟨rfl, e⟩
    refine ⟨rfl, Nat.zero_le _, fun p hp => ⟨_, (by rw [upd_ne (ne_of_none h1 hp)]; exact h1), ?_, ?_⟩⟩
    · rw [List.length_map, hl]; exact small1000 (by rw [arV_len] at hi; have := ok.le; omega)
    · refine ⟨cs ++ [p], by rw [List.length_append, hl]; rfl, by rw [upd_same, List.map_append]; rfl, ?_, ?_, ?_⟩
      · intro c hc
        rcases List.mem_append.mp hc with hc | hc
        · obtain ⟨a1, a2, a3⟩ := h2 c hc
          exact ⟨by rw [upd_ne a2, upd_ne (ne_of_none a1 hp)]; exact a1, a2, a3⟩
        · rw [List.mem_singleton] at hc
          subst hc
          have hpD : c ≠ D := (ne_of_none h1 hp).symm
          exact ⟨by rw [upd_ne hpD, upd_same], hpD, hs.free hp⟩
      · intro k l c e1 e2
        rw [List.getElem?_append] at e1 e2
        split at e1 <;> split at e2
        · exact h3 k l c e1 e2
        · rename_i k1 l1
          have := List.mem_of_getElem? e1
          have e3 : p = c := by
            rcases Nat.lt_or_ge (l - cs.length) 1 with z | z
            · have : l - cs.length = 0 := by omega
              rw [this] at e2; simpa using e2
            · rw [List.getElem?_eq_none (by simpa using z)] at e2; cases e2
          subst e3
          rw [(h2 _ this).1] at hp; cases hp
        · rename_i k1 l1
          have := List.mem_of_getElem? e2
          have e3 : p = c := by
            rcases Nat.lt_or_ge (k - cs.length) 1 with z | z
            · have : k - cs.length = 0 := by omega
              rw [this] at e1; simpa using e1
            · rw [List.getElem?_eq_none (by simpa using z)] at e1; cases e1
          subst e3
          rw [(h2 _ this).1] at hp; cases hp
        · rename_i k1 l1
          rcases Nat.lt_or_ge (k - cs.length) 1 with z | z
          · rcases Nat.lt_or_ge (l - cs.length) 1 with z' | z'
            · omega
            · rw [List.getElem?_eq_none (by simpa using z')] at e2; cases e2
          · rw [List.getElem?_eq_none (by simpa using z)] at e1; cases e1
      · intro b o e
        rw [upd_ne (ne_of_none e hD), upd_ne (ne_of_none (hs _ _ e) hp)]
        exact hs _ _ e
  rintro H1 ⟨cs, hl, h1, h2, h3, hs⟩
  rw [arV_len] at hl
  have ht1 : H1 t = some (.ins A.T dx [("above", .ref a)]) := hs _ _ upd_same
  refine ⟨_, rfl, t, _, dx, _, rfl, ht1, T.cl_T, T.n_T_below, (by show 1 < 1000; decide), ?_⟩
  rw [fT_2]
  have hDt : D ≠ t := fun e => by subst e; rw [ht1] at h1; cases h1
  let H2 := upd H1 t (.ins A.T dx (fT (.ref a) (.ref D)))
  have k2 : ∀ b o, b ≠ t → H1 b = some o → H2 b = some o := fun b o hb e => by show upd _ _ _ _ = _; rw [upd_ne hb]; exact e
  have ha2 : H2 a = some (.tup (chV n par)) := k2 _ _ hta (hs _ _ ha0)
  refine ⟨_, rfl, a, _, rfl, SqT.of ha2, ?_⟩
  refine for_it (walk_enumT (xs := chV n par)) (fun i σ H' => (∃ v1 v2, σ = [some (.ref t), some (.ref a), v1, v2]) ∧ H' t = some (.ins A.T dx (fT (.ref a) (.ref D))) ∧ H' D = some (.lst (cs.map V.ref)) ∧ (∀ k c, cs[k]? = some c → H' c = some (.lst (natV (kidsU par i k)))) ∧ (∀ b o, b ≠ t → H b = some o → H' b = some o))
    ⟨⟨_, _, rfl⟩, upd_same, k2 _ _ hDt h1, ?_, ?_⟩ ?_ ?_ ?_
  · intro k c e
    have hc := (h2 c (List.mem_of_getElem? e)).1
    have : c ≠ t := fun e => by subst e; rw [ht1] at hc; cases hc
    exact k2 _ _ this hc
  · intro b o hb e
    exact k2 _ _ hb (hs _ _ (k0 _ _ hb e))
  · rintro i σ H' _ ⟨_, _, _, _, h⟩
    exact SqT.of (h _ _ hta ha)
  · rintro i x σ H3 H4 hi ⟨⟨v1, v2, rfl⟩, g1, g2, g3, g4⟩ ⟨T1, x1, y1, rfl, hT, rfl, e1, e2⟩
    cases e1
    obtain ⟨hin, rfl⟩ := arV_geti e2
    refine gpair upd_same ?_
    have sm : Same H3 (upd H3 T1 (.tup [.int (i : Nat), oV (chO par i)])) := Same.new hT
    refine ⟨_, rfl, rfl, _, rfl, ?_⟩
    by_cases i0 : i = 0
    · subst i0
      refine ifF rfl ?_
      refine ⟨⟨_, _, rfl⟩, sm _ _ g1, sm _ _ g2, fun k c e => ?_, fun b o hb e => sm _ _ (g4 b o hb e)⟩
      rw [sm _ _ (g3 k c e)]
      rfl
    · have il := ok.lt i (by omega) hin
      rw [chO_pos (by omega)] at *
      refine ifT rfl ?_
      obtain ⟨c, hc⟩ : ∃ c, cs[par i]? = some c := ⟨cs[par i]'(by omega), by simp [show par i < cs.length by omega]⟩
      have hcm : (cs.map V.ref)[par i]? = some (.ref c) := by rw [List.getElem?_map, hc]; rfl
      refine ⟨_, rfl, t, _, dx, _, _, rfl, sm _ _ g1, T.cl_T, T.n_T_below, fT_below _ _, ?_⟩
      refine ⟨_, rfl, D, _, _, _, rfl, rfl, SqL.of (sm _ _ g2), atI_nat hcm, ?_⟩
      have hcl := sm _ _ (g3 _ _ hc)
      refine ⟨.inl ⟨rfl, _, SqL.of hcl⟩, ?_⟩
      have hcT : c ≠ T1 := ne_of_none (g3 _ _ hc) hT
      have hct : c ≠ t := ne_of (g3 _ _ hc) g1 (by intro z; cases z)
      have hcD : c ≠ D := (h2 c (List.mem_of_getElem? hc)).2.1
      refine ⟨_, rfl, c, _, _, rfl, rfl, hcl, ?_, ?_⟩
      · have : (natV (kidsU par i (par i))).length ≤ i := by unfold natV kidsU; rw [List.length_map]; exact Nat.le_trans (List.length_filter_le _ _) (by simp)
        exact small1000 (by have := ok.le; omega)
      · refine ⟨⟨_, _, rfl⟩, by rw [upd_ne hct.symm]; exact sm _ _ g1, by rw [upd_ne hcD.symm]; exact sm _ _ g2, fun k d e => ?_, fun b o hb e => ?_⟩
        · by_cases ek : k = par i
          · subst ek
            rw [hc] at e; cases e
            rw [upd_same]
            have e3 : kidsU par (i + 1) (par i) = kidsU par i (par i) ++ [i] := by
              unfold kidsU
              rw [List.range_succ, List.filter_append]
              congr 1
              simp; omega
            rw [e3]
            unfold natV
            rw [List.map_append]; rfl
          · have hd : d ≠ c := fun z => ek (h3 _ _ _ e (z ▸ hc))
            have e3 : kidsU par (i + 1) k = kidsU par i k := by
              unfold kidsU
              rw [List.range_succ, List.filter_append]
              have : List.filter (fun j => decide (0 < j ∧ par j = k)) [i] = [] := by simp; intro _ z; exact ek z.symm
              rw [this, List.append_nil]
            rw [upd_ne hd, e3]
            exact sm _ _ (g3 _ _ e)
        · rw [upd_ne (fun z => by have e0 := k0 b o hb e; rw [z, (h2 c (List.mem_of_getElem? hc)).2.2] at e0; cases e0)]
          exact sm _ _ (g4 _ _ hb e)
  · rintro σ H' ⟨⟨v1, v2, rfl⟩, g1, g2, g3, g4⟩
    rw [arV_len] at g3
    refine q _ g4 ⟨ok, dx, a, D, cs, g1, g4 _ _ hta ha, hl, g2, g3⟩ ?_
    have hn : ∀ b, b ≠ t → H0 b = none → H b = none := fun b hb e => by rw [← e]; show _ = upd _ _ _ _; rw [upd_ne hb]
    refine ⟨fun b => if b = t ∨ b = a ∨ H b = none then H' b else none, ⟨ok, dx, a, D, cs, ?_, ?_, hl, ?_, fun k c e => ?_⟩, fun b o e => ?_, fun b o e => ?_⟩
    · show (if t = t ∨ t = a ∨ H t = none then H' t else none) = _
      rw [if_pos (.inl rfl)]; exact g1
    · show (if a = t ∨ a = a ∨ H a = none then H' a else none) = _
      rw [if_pos (.inr (.inl rfl))]; exact g4 _ _ hta ha
    · show (if D = t ∨ D = a ∨ H D = none then H' D else none) = _
      rw [if_pos (.inr (.inr (hn D hDt hD)))]; exact g2
    · have hc := h2 c (List.mem_of_getElem? e)
      have : c ≠ t := ne_of (g3 k c e) g1 (by intro z; cases z)
      show (if c = t ∨ c = a ∨ H c = none then H' c else none) = _
      rw [if_pos (.inr (.inr (hn c this hc.2.2)))]; exact g3 k c e
    · have e : (if b = t ∨ b = a ∨ H b = none then H' b else none) = some o := e
      by_cases c : b = t ∨ b = a ∨ H b = none
      · rw [if_pos c] at e; exact e
      · rw [if_neg c] at e; cases e
    · have e : (if b = t ∨ b = a ∨ H b = none then H' b else none) = some o := e
      by_cases c : b = t ∨ b = a ∨ H b = none
      · exact c
      · rw [if_neg c] at e; cases e
/-! ### path -/
theorem chO_at {n : Nat} {par : Nat → Nat} {k : Nat} (h : k < n) (h0 : 0 < k) : atI (chV n par) (k : Int) = some (.int (par k : Nat)) := by
  rw [arV_at h, chO_pos h0]; rfl
abbrev sp_Tree_path (A : Ad) : Sp := sp2 fun x y H Q => ∃ t n par k, x = .ref t ∧ y = .int (k : Nat) ∧ TreeAt A H t n par ∧ k < n ∧ ∀ p H', Same H H' → H p = none → H' p = some (.lst (natV (pathTo par k))) → Q (.ref p) H'
theorem g_Tree_path (T : Fx K mg A) : Mf P w K mg base 1 (IsT A) "path" ["self", "post"] (sp_Tree_path A) := by
  refine mf2 T.d_Tree_path sc_Tree_path (fun _ _ _ _ _ _ us hl => match us, hl with | [_, _], _ => rfl) ?_
  rintro v1 v2 f cdv A' outer s E H Q hr ⟨t, n, par, k, rfl, rfl, ht, hk, q⟩
  refine ⟨_, (pss_cons (ps_set (i := 2) sc_Tree_path.nd rfl (by first | exact Or.inl rfl | exact Or.inr rfl) (pe_lst (pa_cons (pv 1) pa_nil)))
      (pss_cons (ps_while PassesOwn.never (pt_cmpR op_ne (pe_ix ix_list (pv 2) (pe_un un_neg pe_int) (fun _ _ => rfl)) pe_int (nomark _))
      (pss_one (ps_expr (pe_bm PySem.F.plainAttrs_list PySem.F.slot_list_append PySem.F.type_list_append mt_append (pv 2) (pa_cons (pe_ix ix_tup (pe_fld (pv 0) rfl) (pe_ix ix_list (pv 2) (pe_un un_neg pe_int) (fun _ _ => rfl)) (fun _ _ => rfl)) pa_nil)))))
      (pss_one (ps_ret (pe_revL (pv 2)))))), ?_⟩
  obtain ⟨ok, dx, a, b, cs, h1, h2, h3, h4, h5⟩ := ht
  refine ⟨_, rfl, by show 1 ≤ sizeLine; decide, fun p hp => ?_⟩
  refine ⟨fun m σ H' => ∃ (l : List Nat) (z : Nat), σ = [some (.ref t), some (.int (k : Nat)), some (.ref p)] ∧ H' p = some (.lst (natV l ++ [.int (z : Nat)])) ∧ Same H H' ∧ z < n ∧ pathTo par k = (pathTo par z).dropLast ++ (l ++ [z]).reverse ∧ l.length + z ≤ k ∧ m = z,
    ⟨k, [], k, rfl, upd_same, Same.new hp, hk, pathTo_last ok k hk, Nat.le_of_eq (Nat.zero_add k), rfl⟩, ?_⟩
  rintro m σ H' ⟨l, z, rfl, e1, sm, hz, e2, e3, rfl⟩
  have il : (l ++ [m]).length ≤ 1000 := by have := ok.le; simp; omega
  refine ⟨_, rfl, _, rfl, p, _, _, _, rfl, rfl, SqL.of e1, atI_last _ _, rfl, _, rfl, ?_⟩
  by_cases h0 : m = 0
  · subst h0
    refine ifFn (decide_eq_true rfl) ?_
    refine ⟨_, rfl, p, _, rfl, SqL.of e1, fun r hr' => ?_⟩
    refine q _ _ (Same.tr sm (Same.new hr')) (Same.free sm hr') ?_
    rw [upd_same, e2]
    show some (HO.lst (List.reverse (natV l ++ [V.int (0 : Nat)]))) = some (HO.lst (natV ([] ++ (l ++ [0]).reverse)))
    unfold natV
    rw [List.nil_append, List.map_reverse, List.map_append]; rfl
  · refine ifTn (decide_eq_false (by intro z; cases z; exact h0 rfl)) ?_
    have lt := ok.lt m (by omega) hz
    refine ⟨fun σ H' => ∃ (l : List Nat) (z : Nat), σ = [some (.ref t), some (.int (k : Nat)), some (.ref p)] ∧ H' p = some (.lst (natV l ++ [.int (z : Nat)])) ∧ Same H H' ∧ z < n ∧ pathTo par k = (pathTo par z).dropLast ++ (l ++ [z]).reverse ∧ l.length + z ≤ k ∧ z < m, ?_, ?_⟩
    · rintro σ H'' ⟨l, z, a1, a2, a3, a4, a5, a6, a7⟩
      exact ⟨z, a7, l, z, a1, a2, a3, a4, a5, a6, rfl⟩
    · refine ⟨_, rfl, .inl ⟨rfl, _, SqL.of e1⟩, ?_⟩
      refine ⟨_, rfl, t, _, dx, _, _, rfl, sm _ _ h1, T.cl_T, T.n_T_above, fT_above _ _, ?_⟩
      refine ⟨_, rfl, _, rfl, p, _, _, _, rfl, rfl, SqL.of e1, atI_last _ _, ?_⟩
      refine ⟨a, _, _, _, rfl, rfl, SqT.of (sm _ _ h2), chO_at hz (by omega), ?_⟩
      refine ⟨p, _, _, rfl, rfl, e1, ?_, ?_⟩
      · exact small1000 (by simpa [natV] using il)
      · refine ⟨l ++ [m], par m, rfl, ?_, ?_, by omega, ?_, ?_, lt⟩
        · rw [upd_same]
          simp [natV]
        · intro b o e
          rw [upd_ne (ne_of_none e hp)]
          exact sm _ _ e
        · rw [e2, pathTo_drop ok (by omega) hz]
          conv => lhs; rw [pathTo_last ok (par m) (by omega)]
          simp
        · simp; omega
/-! ### common -/
abbrev sp_Tree_common (A : Ad) : Sp := sp3 fun x y z H Q => ∃ t n par i j, x = .ref t ∧ y = .int (i : Nat) ∧ z = .int (j : Nat) ∧ TreeAt A H t n par ∧ i < n ∧ j < n ∧ ∀ m, Above par m i → Above par m j → Q (.int (m : Nat)) H
theorem g_Tree_common (T : Fx K mg A) : Mf P w K mg base 1 (IsT A) "common" ["self", "a", "b"] (sp_Tree_common A) := by
  refine mf3 T.d_Tree_common sc_Tree_common (fun _ _ _ _ _ _ us hl => match us, hl with | [_, _, _], _ => rfl) ?_
  rintro v1 v2 v3 f cdv A' outer s E H Q hr ⟨t, n, par, i, j, rfl, rfl, rfl, ht, hi, hj, q⟩
  refine ⟨_, (pss_cons (ps_while PassesOwn.never (pt_cmpR op_ne (pv 1) (pv 2) (nomark _))
      (pss_one (ps_par (i := 1) (j := 2) rfl sc_Tree_common.nd rfl rfl (by decide) rfl rfl (pa_cons (pe_ix ix_tup (pe_fld (pv 0) rfl) (pe_callB (call_max2 rfl) (by rfl) T.b_max (by decide +kernel) (pa_cons (pv 1) (pa_cons (pv 2) pa_nil))) (fun _ _ => rfl)) (pa_cons (pe_callB (call_min2 rfl) (by rfl) T.b_min (by decide +kernel) (pa_cons (pv 1) (pa_cons (pv 2) pa_nil))) pa_nil)) (by rfl))))
      (pss_one (ps_ret (pv 1)))), ?_⟩
  obtain ⟨ok, dx, a, b, cs, h1, h2, h3, h4, h5⟩ := ht
  refine ⟨fun m σ H' => ∃ c d : Nat, σ = [some (.ref t), some (.int (c : Nat)), some (.int (d : Nat))] ∧ H' = H ∧ c < n ∧ d < n ∧ ((Above par c i ∧ Above par d j) ∨ (Above par c j ∧ Above par d i)) ∧ m = c + d,
    ⟨_, i, j, rfl, rfl, hi, hj, .inl ⟨.refl, .refl⟩, rfl⟩, ?_⟩
  rintro m σ H' ⟨c, d, rfl, eH, hc, hd, hab, rfl⟩
  subst H'
  refine ⟨_, rfl, _, rfl, rfl, _, rfl, ?_⟩
  by_cases hcd : c = d
  · subst hcd
    refine ifFn (decide_eq_true rfl) ?_
    refine ⟨_, rfl, ?_⟩
    rcases hab with ⟨x, y⟩ | ⟨x, y⟩
    · exact q c x y
    · exact q c y x
  · refine ifTn (decide_eq_false (by intro z; cases z; exact hcd rfl)) ?_
    refine ⟨fun σ H' => ∃ c' d' : Nat, σ = [some (.ref t), some (.int (c' : Nat)), some (.int (d' : Nat))] ∧ H' = H ∧ c' < n ∧ d' < n ∧ ((Above par c' i ∧ Above par d' j) ∨ (Above par c' j ∧ Above par d' i)) ∧ c' + d' < c + d, ?_, ?_⟩
    · rintro σ H'' ⟨x, y, a1, a2, a3, a4, a5, a6⟩
      exact ⟨x + y, a6, x, y, a1, a2, a3, a4, a5, rfl⟩
    · refine ⟨_, rfl, t, _, dx, _, _, rfl, h1, T.cl_T, T.n_T_above, fT_above _ _, ?_⟩
      have key : ∀ (x y : Nat), 0 < x → x < n → y < n → (x = c ∧ y = d ∨ x = d ∧ y = c) → y < x → (if ((d : Nat) : Int) > (c : Nat) then ((d : Nat) : Int) else (c : Nat)) = (x : Nat) ∧ (if ((d : Nat) : Int) < (c : Nat) then ((d : Nat) : Int) else (c : Nat)) = (y : Nat) := by
        intro x y _ _ _ h2 h3
        rcases h2 with ⟨rfl, rfl⟩ | ⟨rfl, rfl⟩
        · exact ⟨if_neg (by omega), if_pos (by omega)⟩
        · exact ⟨if_pos (by omega), if_neg (by omega)⟩
      obtain ⟨x, y, hx, hy, hxy⟩ : ∃ x y, (x = c ∧ y = d ∨ x = d ∧ y = c) ∧ y < x ∧ x < n := by
        rcases Nat.lt_or_ge c d with z | z
        · exact ⟨d, c, .inr ⟨rfl, rfl⟩, z, hd⟩
        · exact ⟨c, d, .inl ⟨rfl, rfl⟩, by omega, hc⟩
      obtain ⟨k1, k2⟩ := key x y (by omega) hxy (by omega) hx hy
      refine ⟨_, rfl, _, rfl, _, _, rfl, a, _, _, _, rfl, rfl, SqT.of h2, (by rw [k1]; exact chO_at hxy (by omega)), ?_⟩
      refine ⟨_, rfl, _, rfl, _, _, rfl, _, _, rfl, ?_⟩
      have lx := ok.lt x (by omega) hxy
      rw [k2]
      refine ⟨par x, y, rfl, rfl, by omega, by omega, ?_, ?_⟩
      · rcases hx with ⟨rfl, rfl⟩ | ⟨rfl, rfl⟩
        · rcases hab with ⟨u, v⟩ | ⟨u, v⟩
          · exact .inl ⟨(Above.one (by omega)).trans u, v⟩
          · exact .inr ⟨(Above.one (by omega)).trans u, v⟩
        · rcases hab with ⟨u, v⟩ | ⟨u, v⟩
          · exact .inr ⟨(Above.one (by omega)).trans v, u⟩
          · exact .inl ⟨(Above.one (by omega)).trans v, u⟩
      · omega
end MV
end

section
set_option Elab.async false
set_option autoImplicit false
set_option linter.all false
set_option maxRecDepth 100000
set_option maxHeartbeats 4000000
namespace MV
open PySem PySem.Spec PyProof.Rows L2 L3 MU PySem.W
variable {P : Program} {w : World} {K : PySem.W.Frag} {mg : Str → Option Value} {base : Heap} {A : Ad}
abbrev sp_is_person : Sp := sp_is_whole
theorem g_is_person (T : Fx K mg A) : Gf P w K mg base 2 "is_person" ["value"] (sp_is_person) := by
  refine gf1 T.d_is_person sc_is_person (fun _ _ _ _ _ _ us hl => match us, hl with | [_], _ => rfl) ?_
  rintro v f cdv A' outer s E H Q hr ⟨i, rfl, q⟩
  refine ⟨_, (pss_one (ps_ret (pe_g (g_is_whole T) hr (pa_cons (pv 0) pa_nil)))), ?_⟩
  exact ⟨_, rfl, i, rfl, q⟩
theorem repl_get {v y : V} {m i : Nat} (h : (List.replicate m v)[i]? = some y) : y = v := by
  rw [List.getElem?_replicate] at h
  split at h
  · exact (Option.some.inj h).symm
  · cases h
abbrev sp_first_fault : Sp := sp2 fun x y H Q => ∃ a m, y = .ref a ∧ H a = some (.lst (List.replicate m (.bl false))) ∧ ∀ H', Same H H' → Q .non H'
theorem g_first_fault (T : Fx K mg A) : Gf P w K mg base 1 "first_fault" ["word", "faults"] (sp_first_fault) := by
  refine gf2 T.d_first_fault sc_first_fault (fun _ _ _ _ _ _ us hl => match us, hl with | [_, _], _ => rfl) ?_
  rintro v1 v2 f cdv A' outer s E H Q hr ⟨a, m, rfl, ha, q⟩
  refine ⟨_, (pss_cons (ps_for PassesOwn.never rfl (pi_enum (by rfl) T.b_enumerate (pa_cons (pv 1) pa_nil)) (pg_tup rfl (pgs_cons (pg_name (i := 2) sc_first_fault.nd rfl (by first | exact Or.inl rfl | exact Or.inr rfl)) (pgs_cons (pg_name (i := 3) sc_first_fault.nd rfl (by first | exact Or.inl rfl | exact Or.inr rfl)) pgs_nil)))
      (pss_one (ps_if (pt_val (pv 3)) (pss_one (ps_ret (pe_tup (pa_cons (pv 0) (pa_cons (pv 2) pa_nil))))) pss_nil)))
      (pss_one (ps_ret pe_non))), ?_⟩
  refine ⟨_, rfl, a, _, rfl, SqL.of ha, ?_⟩
  refine for_it walk_enum (fun i σ H' => (∃ u1 u2, σ = [some v1, some (.ref a), u1, u2]) ∧ Same H H') ⟨⟨_, _, rfl⟩, Same.refl'⟩ (fun i σ H' _ h => SqL.of (h.2 _ _ ha)) ?_ ?_
  · rintro i x σ H1 H2 hi ⟨⟨u1, u2, rfl⟩, sm⟩ ⟨T1, x1, y1, rfl, hT, rfl, e1, e2⟩
    cases e1
    obtain rfl := repl_get e2
    refine gpair upd_same ?_
    exact ⟨_, rfl, _, rfl, iteF ⟨⟨_, _, rfl⟩, Same.tr sm (Same.new hT)⟩⟩
  · rintro σ H1 ⟨⟨u1, u2, rfl⟩, sm⟩
    exact q _ sm
/-! ### repeats -/
abbrev sp_repeats : Sp := sp1 fun x H Q => ∃ a n f, x = .ref a ∧ H a = some (.tup (arV n f)) ∧ n ≤ 8 ∧ (∀ i j x, f i = some x → f j = some x → i = j) ∧ ∀ r H', Same H H' → H r = none → H' r = some (.lst (List.replicate n (.bl false))) → Q (.ref r) H'
theorem g_repeats (T : Fx K mg A) : Gf P w K mg base 1 "repeats" ["items"] (sp_repeats) := by
  refine gf1 T.d_repeats sc_repeats (fun _ _ _ _ _ _ us hl => match us, hl with | [_], _ => rfl) ?_
  rintro v1 f cdv A' outer s E H Q hr ⟨a, n, g, rfl, ha, hn, inj, q⟩
  refine ⟨_, (pss_cons (ps_set (i := 1) sc_repeats.nd rfl (by first | exact Or.inl rfl | exact Or.inr rfl) pe_dispN)
      (pss_cons (ps_set (i := 2) sc_repeats.nd rfl (by first | exact Or.inl rfl | exact Or.inr rfl) (pe_lst pa_nil))
      (pss_cons (ps_for PassesOwn.never rfl (pi_tup (pv 0)) (pg_name (i := 3) sc_repeats.nd rfl (by first | exact Or.inl rfl | exact Or.inr rfl))
      (pss_cons (ps_expr (pe_bm PySem.F.plainAttrs_list PySem.F.slot_list_append PySem.F.type_list_append mt_append (pv 2) (pa_cons (pe_getN (pv 1) (pv 3) pe_bl ⟨rfl, rfl, rfl, rfl⟩) pa_nil)))
      (pss_one (ps_if (pt_cmpR op_notN (pv 3) pe_non (nomark _)) (pss_one (ps_putN (pv 1) (pv 3) pe_bl rfl)) pss_nil))))
      (pss_one (ps_ret (pv 2)))))), ?_⟩
  intro p hp
  refine ⟨Nat.zero_le _, fun r hr' => ?_⟩
  have hpr : p ≠ r := ne_of_none upd_same hr'
  have hr0 : H r = none := Same.free (Same.new hp) hr'
  have s1 : Same H (upd (upd H p (NoneD P w p (fun o => if o = none then some false else none) 1)) r (.lst [])) := Same.tr (Same.new hp) (Same.new hr')
  refine ⟨_, rfl, a, rfl, ⟨_, SqT.of (s1 _ _ ha)⟩, ?_⟩
  refine for_it (walk_tup (xs := arV n g)) (fun i σ H' => (∃ u, σ = [some (.ref a), some (.ref p), some (.ref r), u]) ∧ Same H H' ∧ H' r = some (.lst (List.replicate i (.bl false))) ∧ ∃ S m, m ≤ i + 1 ∧ H' p = some (NoneD P w p S m) ∧ S none = some false ∧ ∀ x, S (some x) ≠ none → ∃ j, j < i ∧ g j = some x)
    ⟨⟨_, rfl⟩, s1, upd_same, fun o => if o = none then some false else none, 1, Nat.le_refl _, (upd_ne hpr).trans upd_same, if_pos rfl, fun x h => absurd (if_neg (fun z => by cases z)) h⟩ (fun i σ H' _ h => SqT.of (h.2.1 _ _ ha)) ?_ ?_
  · rintro i x σ H1 H2 hi ⟨⟨u, rfl⟩, sm, h1, S, m, hm, h2, h3, h4⟩ ⟨rfl, e⟩
    obtain ⟨hin, rfl⟩ := arV_geti e
    refine ⟨_, rfl, .inl ⟨rfl, _, SqL.of h1⟩, ?_⟩
    refine ⟨_, rfl, p, S, m, rfl, h2, _, rfl, S, m, g i, false, h2, rfl, rfl, r, _, _, rfl, rfl, h1, ?_, ?_⟩
    · rw [List.length_replicate]; exact small1000 (by omega)
    have e3 : (S (g i)).getD false = false := by
      cases e : g i with
      | none => rw [h3]; rfl
      | some x =>
        cases e2 : S (some x) with
        | none => rfl
        | some b =>
          obtain ⟨j, j1, j2⟩ := h4 x (by rw [e2]; simp)
          have := inj _ _ _ e j2
          omega
    rw [e3]
    have e4 : List.replicate i (V.bl false) ++ [V.bl false] = List.replicate (i + 1) (.bl false) := (List.replicate_succ' ..).symm
    rw [e4]
    have sm2 : Same H (upd H2 r (.lst (List.replicate (i + 1) (.bl false)))) := fun b o e => by rw [upd_ne (ne_of_none e hr0)]; exact sm _ _ e
    refine ⟨_, rfl, rfl, _, rfl, ?_⟩
    cases e : g i with
    | none =>
      refine iteF ⟨⟨_, rfl⟩, sm2, upd_same, S, m, by omega, by rw [upd_ne hpr]; exact h2, h3, fun x hx => ?_⟩
      obtain ⟨j, j1, j2⟩ := h4 x hx
      exact ⟨j, by omega, j2⟩
    | some x =>
      refine ifT rfl ?_
      refine ⟨_, rfl, _, rfl, p, S, m, some x, true, rfl, rfl, rfl, (by rw [upd_ne hpr]; exact h2), small1000 (by omega), ?_⟩
      refine ⟨⟨_, rfl⟩, fun b o e => by rw [upd_ne (ne_of_none e hp)]; exact sm2 _ _ e, by rw [upd_ne hpr.symm, upd_same], _, m + 1, by omega, upd_same, by rw [if_neg (by simp)]; exact h3, fun y hy => ?_⟩
      by_cases exy : y = x
      · subst exy; exact ⟨i, by omega, e⟩
      · rw [if_neg (by intro z; exact exy (Option.some.inj z))] at hy
        obtain ⟨j, j1, j2⟩ := h4 y hy
        exact ⟨j, by omega, j2⟩
  · rintro σ H1 ⟨⟨u, rfl⟩, sm, h1, _⟩
    rw [arV_len] at h1
    exact ⟨_, rfl, q _ _ sm hr0 h1⟩
/-! ### is_out_of_order -/
abbrev sp_is_out_of_order : Sp := sp3 fun x y z H Q => ∃ c a n par f k, x = .ref c ∧ y = .ref a ∧ z = .int (k : Nat) ∧ H c = some (.tup (chV n par)) ∧ H a = some (.tup (arV n f)) ∧ TreeOk n par ∧ Valid n par f ∧ k < n ∧ Q (.bl false) H
theorem g_is_out_of_order (T : Fx K mg A) : Gf P w K mg base 1 "is_out_of_order" ["chart", "value", "post"] (sp_is_out_of_order) := by
  refine gf3 T.d_is_out_of_order sc_is_out_of_order (fun _ _ _ _ _ _ us hl => match us, hl with | [_, _, _], _ => rfl) ?_
  rintro v1 v2 v3 f cdv A' outer s E H Q hr ⟨c, a, n, par, g, k, rfl, rfl, rfl, hc, ha, ok, va, hk, q⟩
  refine ⟨_, (pss_cons (ps_if (PW.pt (pw_or (pt_cmpR op_eq (pv 2) pe_int (nomark _)) (pw_or1 (pt_cmpR op_isN (pe_ix ix_tup (pv 1) (pv 2) (fun _ _ => rfl)) pe_non (nomark _))))) (pss_one (ps_ret pe_bl)) pss_nil)
      (pss_cons (ps_set (i := 3) sc_is_out_of_order.nd rfl (by first | exact Or.inl rfl | exact Or.inr rfl) (pe_ix ix_tup (pv 1) (pe_ix ix_tup (pv 0) (pv 2) (fun _ _ => rfl)) (fun _ _ => rfl)))
      (pss_one (ps_ret (pe_or (pe_cmpR op_isN (pv 3) pe_non (nomark _)) (pe_one (pe_cmpR op_gt (pv 3) (pe_ix ix_tup (pv 1) (pv 2) (fun _ _ => rfl)) (nomark _)))))))), ?_⟩
  refine ⟨_, rfl, rfl, _, rfl, ?_⟩
  by_cases k0 : k = 0
  · subst k0
    refine ifT (decide_eq_true rfl) ?_
    exact iteT q
  refine ifF (decide_eq_false (by intro z; cases z; exact k0 rfl)) ?_
  refine ⟨_, rfl, _, rfl, a, _, _, _, rfl, rfl, SqT.of ha, arV_at hk, rfl, _, rfl, ?_⟩
  cases e : g k with
  | none => exact iteT q
  | some x =>
    refine ifF rfl ?_
    have lt := ok.lt k (by omega) hk
    obtain ⟨y, e1, l1⟩ := va.up k x (by omega) e
    refine ⟨_, rfl, _, rfl, _, rfl, c, _, _, _, rfl, rfl, SqT.of hc, chO_at hk (by omega), a, _, _, _, rfl, rfl, SqT.of ha, arV_at (k := par k) (by omega), ?_⟩
    rw [e1]
    refine ⟨_, rfl, rfl, _, rfl, ?_⟩
    refine ifF rfl ?_
    refine ⟨_, rfl, _, rfl, _, rfl, a, _, _, _, rfl, rfl, SqT.of ha, arV_at hk, ?_⟩
    rw [e]
    refine ⟨_, _, rfl, rfl, ?_⟩
    show Q (.bl (decide (x < y))) H
    rw [decide_eq_false (by omega)]
    exact q
/-! ### arrangement_fault -/
abbrev sp_arrangement_fault : Sp := sp2 fun x y H Q => ∃ c a n par f, x = .ref c ∧ y = .ref a ∧ H c = some (.tup (chV n par)) ∧ H a = some (.tup (arV n f)) ∧ TreeOk n par ∧ Valid n par f ∧ ∀ H', Same H H' → Q .non H'
theorem g_arrangement_fault (T : Fx K mg A) : Gf P w K mg base 3 "arrangement_fault" ["chart", "value"] (sp_arrangement_fault) := by
  refine gf2 T.d_arrangement_fault sc_arrangement_fault (fun _ _ _ _ _ _ us hl => match us, hl with | [_, _], _ => rfl) ?_
  rintro v1 v2 f cdv A' outer s E H Q hr ⟨c, a, n, par, g, rfl, rfl, hc, ha, ok, va, q⟩
  refine ⟨_, (pss_cons (ps_if (PW.pt (pw_or (pt_not (pt_val (pe_callB call_isi (by rfl) T.b_isinstance (by decide +kernel) (pa_cons (pv 1) (pa_cons (pe_bltn (v := .ty "tuple") (u := .type "tuple") (by rfl) T.b_tuple (by decide +kernel) rfl) pa_nil))))) (pw_or1 (pt_cmpR op_ne (pe_callB call_len_seq (by rfl) T.b_len (by decide +kernel) (pa_cons (pv 1) pa_nil)) (pe_callB call_len_seq (by rfl) T.b_len (by decide +kernel) (pa_cons (pv 0) pa_nil)) (nomark _))))) (pss_one (ps_ret (pe_tup (pa_cons pe_str pa_nil)))) pss_nil)
      (pss_cons (ps_set (i := 2) sc_arrangement_fault.nd rfl (by first | exact Or.inl rfl | exact Or.inr rfl) (pe_g (g_first_fault T) hr (pa_cons pe_str (pa_cons (pe_lc (own := [("person", 3)]) (g := gName 3) (tt := tYes) rfl sc_arrangement_fault.nd (pi_tup (pv 1)) (blkOk_by (N := ["chart", "value", "reason", "person", "post"]) (sc := defScope s_arrangement_fault) (by decide +kernel)) (fun _ _ _ _ _ => pg_name (i := 3) sc_arrangement_fault.nd rfl (by first | exact Or.inl rfl | exact Or.inr rfl)) (fun _ _ _ _ _ => pts_nil) (fun _ _ _ _ _ => (pe_and (pe_cmpR op_notN (pv 3) pe_non (nomark _)) (pe_one (pe_not (pe_g (g_is_person T) hr (pa_cons (pv 3) pa_nil))))))) pa_nil))))
      (pss_cons (ps_if (pt_cmpR op_notN (pv 2) pe_non (nomark _)) (pss_one (ps_ret (pv 2))) pss_nil)
      (pss_cons (ps_set (i := 2) sc_arrangement_fault.nd rfl (by first | exact Or.inl rfl | exact Or.inr rfl) (pe_g (g_first_fault T) hr (pa_cons pe_str (pa_cons (pe_g (g_repeats T) hr (pa_cons (pv 1) pa_nil)) pa_nil))))
      (pss_cons (ps_if (pt_cmpR op_notN (pv 2) pe_non (nomark _)) (pss_one (ps_ret (pv 2))) pss_nil)
      (pss_one (ps_ret (pe_g (g_first_fault T) hr (pa_cons pe_str (pa_cons (pe_lc (own := [("post", 4)]) (g := gName 4) (tt := tYes) rfl sc_arrangement_fault.nd (pi_range1 (by rfl) T.b_range (pa_cons (pe_callB call_len_seq (by rfl) T.b_len (by decide +kernel) (pa_cons (pv 0) pa_nil)) pa_nil)) (blkOk_by (N := ["chart", "value", "reason", "person", "post"]) (sc := defScope s_arrangement_fault) (by decide +kernel)) (fun _ _ _ _ _ => pg_name (i := 4) sc_arrangement_fault.nd rfl (by first | exact Or.inl rfl | exact Or.inr rfl)) (fun _ _ _ _ _ => pts_nil) (fun _ _ _ _ _ => (pe_g (g_is_out_of_order T) hr (pa_cons (pv 0) (pa_cons (pv 1) (pa_cons (pv 4) pa_nil)))))) pa_nil)))))))))), ?_⟩
  refine ⟨_, rfl, _, _, _, _, true, rfl, .ty _, .base (.tup ha), kit_ty (by decide +kernel), true, rfl, ?_⟩
  refine ifF rfl ?_
  refine ⟨_, rfl, a, _, rfl, .inr (SqT.of ha), _, rfl, c, _, rfl, .inr (SqT.of hc), rfl, _, rfl, ?_⟩
  refine ifF (by rw [arV_len, arV_len]; simp) ?_
  have n8 := ok.le
  refine ⟨_, rfl, a, rfl, ⟨_, SqT.of ha⟩, fun D hD => ?_⟩
  refine lc_it (walk_tup (xs := arV n g)) (fun i H' => Same H H' ∧ H' D = some (.lst (List.replicate i (.bl false)))) ⟨Same.new hD, upd_same⟩ (fun i H' _ h => SqT.of (h.1 _ _ ha)) ?_ ?_
  · rintro i x H1 H2 hi ⟨sm, h1⟩ ⟨rfl, e⟩
    obtain ⟨hin, rfl⟩ := arV_geti e
    refine ⟨rfl, ?_⟩
    have fin : ∃ acc, H2 D = some (.lst acc) ∧ acc.length < sizeLine ∧ Same H (upd H2 D (.lst (acc ++ [.bl false]))) ∧ upd H2 D (.lst (acc ++ [.bl false])) D = some (.lst (List.replicate (i + 1) (.bl false))) := by
      refine ⟨_, h1, by rw [List.length_replicate]; exact small1000 (by omega), fun b o e => by rw [upd_ne (ne_of_none e hD)]; exact sm _ _ e, ?_⟩
      rw [upd_same, List.replicate_succ']
    refine ⟨_, rfl, rfl, _, rfl, ?_⟩
    cases e1 : g i with
    | none => exact iteF fin
    | some x =>
      refine ifT rfl ?_
      refine ⟨_, rfl, x, rfl, true, ?_⟩
      have := va.nn i x e1
      rw [decide_eq_true this]
      exact ⟨rfl, fin⟩
  rintro H1 ⟨sm1, h1⟩
  rw [arV_len] at h1
  refine ⟨D, n, rfl, h1, fun H2 sm2 => ?_⟩
  have sm2 := Same.tr sm1 sm2
  refine ⟨_, rfl, rfl, _, rfl, iteF ?_⟩
  refine ⟨_, rfl, a, n, g, rfl, sm2 _ _ ha, n8, va.inj, fun r H3 sm3 _ h3 => ⟨r, n, rfl, h3, fun H4 sm4 => ?_⟩⟩
  have sm4 := Same.tr sm2 (Same.tr sm3 sm4)
  refine ⟨_, rfl, rfl, _, rfl, iteF ?_⟩
  refine ⟨_, rfl, c, _, rfl, .inr (SqT.of (sm4 _ _ hc)), _, rfl, (by rw [arV_len]; omega), (by rw [arV_len]; omega), fun D2 hD2 => ?_⟩
  refine lc_it walk_range (fun i H' => Same H H' ∧ H' D2 = some (.lst (List.replicate i (.bl false)))) ⟨Same.tr sm4 (Same.new hD2), upd_same⟩ (fun i H' _ h => trivial) ?_ ?_
  · rintro i x H5 H6 hi ⟨sm, h1⟩ ⟨rfl, rfl⟩
    have hin : i < n := by rw [arV_len] at hi; omega
    refine ⟨rfl, ?_⟩
    refine ⟨_, rfl, _, rfl, _, rfl, c, a, n, par, g, i, rfl, rfl, congrArg V.int (Int.zero_add _), sm _ _ hc, sm _ _ ha, ok, va, hin, ?_⟩
    refine ⟨_, h1, by rw [List.length_replicate]; exact small1000 (by omega), fun b o e => by rw [upd_ne (ne_of_none e (sm4.free hD2))]; exact sm _ _ e, ?_⟩
    rw [upd_same, List.replicate_succ']
  rintro H5 ⟨sm5, h5⟩
  exact ⟨D2, _, rfl, h5, fun H6 sm6 => q _ (Same.tr sm5 sm6)⟩
abbrev sp_require_arrangement : Sp := sp_arrangement_fault
theorem g_require_arrangement (T : Fx K mg A) : Gf P w K mg base 4 "require_arrangement" ["chart", "arrangement"] (sp_require_arrangement) := by
  refine gf2 T.d_require_arrangement sc_require_arrangement (fun _ _ _ _ _ _ us hl => match us, hl with | [_, _], _ => rfl) ?_
  rintro v1 v2 f cdv A' outer s E H Q hr ⟨c, a, n, par, g, rfl, rfl, hc, ha, ok, va, q⟩
  refine ⟨_, (pss_cons (ps_set (i := 2) sc_require_arrangement.nd rfl (by first | exact Or.inl rfl | exact Or.inr rfl) (pe_g (g_arrangement_fault T) hr (pa_cons (pv 0) (pa_cons (pv 1) pa_nil))))
      (pss_one (ps_if (pt_cmpR op_notN (pv 2) pe_non (nomark _)) pss_never pss_nil))), ?_⟩
  refine ⟨_, rfl, _, rfl, c, a, n, par, g, rfl, rfl, hc, ha, ok, va, fun H' hs => ?_⟩
  exact ⟨_, rfl, rfl, _, rfl, iteF (q _ hs)⟩
/-! ### membership -/
theorem flat_arV {n : Nat} {f : Nat → Option Int} : (arV n f).all flatV = true := by
  rw [List.all_eq_true]
  intro x hx
  unfold arV at hx
  obtain ⟨o, _, rfl⟩ := List.mem_map.mp hx
  cases o <;> rfl
theorem mem_arV {n : Nat} {f : Nat → Option Int} {v : V} : v ∈ arV n f ↔ ∃ k, k < n ∧ oV (f k) = v := by
  unfold arV opl
  rw [List.map_map, List.mem_map]
  constructor
  · rintro ⟨k, hk, e⟩; exact ⟨k, List.mem_range.mp hk, e⟩
  · rintro ⟨k, hk, e⟩; exact ⟨k, List.mem_range.mpr hk, e⟩
theorem inV_ar {n : Nat} {f : Nat → Option Int} {x : Int} (h : ∃ k, k < n ∧ f k = some x) : inV (.int x) (arV n f) = true := by
  obtain ⟨k, hk, e⟩ := h
  unfold inV
  rw [List.any_eq_true]
  refine ⟨.int x, mem_arV.mpr ⟨k, hk, by rw [e]; rfl⟩, ?_⟩
  show decide (x = x) = true
  exact decide_eq_true rfl
theorem inV_not {n : Nat} {f : Nat → Option Int} {x : Int} (h : ∀ k, f k ≠ some x) : inV (.int x) (arV n f) = false := by
  unfold inV
  rw [List.any_eq_false]
  intro y hy
  obtain ⟨k, _, rfl⟩ := mem_arV.mp hy
  cases e : f k with
  | none => exact fun z => by cases z
  | some z => 
    show ¬ decide (z = x) = true
    intro e2
    exact h k (by rw [e, of_decide_eq_true e2])
abbrev sp_require_holder : Sp := sp2 fun x y H Q => ∃ a n f i, x = .ref a ∧ y = .int i ∧ H a = some (.tup (arV n f)) ∧ 0 ≤ i ∧ (∃ k, k < n ∧ f k = some i) ∧ Q .non H
theorem g_require_holder (T : Fx K mg A) : Gf P w K mg base 3 "require_holder" ["arrangement", "person"] (sp_require_holder) := by
  refine gf2 T.d_require_holder sc_require_holder (fun _ _ _ _ _ _ us hl => match us, hl with | [_, _], _ => rfl) ?_
  rintro v1 v2 f cdv A' outer s E H Q hr ⟨a, n, g, i, rfl, rfl, ha, h0, hk, q⟩
  refine ⟨_, (pss_one (ps_if (PW.pt (pw_or (pt_not (pt_val (pe_g (g_is_person T) hr (pa_cons (pv 1) pa_nil)))) (pw_or1 (pt_cmpR op_notIn_seq (pv 1) (pv 0) (by rfl))))) pss_never pss_nil)), ?_⟩
  refine ⟨_, rfl, i, rfl, _, rfl, ?_⟩
  refine ifFn (decide_eq_true h0) ?_
  refine ⟨_, rfl, _, rfl, a, _, rfl, .inr (SqT.of ha), rfl, flat_arV, _, rfl, ?_⟩
  refine ifF ?_ q
  show (!inV (.int i) (arV n g)) = false
  rw [inV_ar hk]; rfl
/-! ### is_open -/
def Sq (H : Hp) (r : Addr) (xs : List V) : Prop := H r = some (.lst xs) ∨ H r = some (.tup xs)
theorem ixs {K : PySem.W.Frag} {H : Hp} {r : Addr} {xs : List V} {i : Int} {v : V} {Q : VK} (h : Sq H r xs) (a : atI xs i = some v) (q : Q v H) : rIx K (.ref r) (.int i) H Q := by
  rcases h with h | h
  · exact .inl ⟨r, xs, i, v, rfl, rfl, SqL.of h, a, q⟩
  · exact .inr (.inl ⟨r, xs, i, v, rfl, rfl, SqT.of h, a, q⟩)
def openB (par : Nat → Nat) (f : Nat → Option Int) (k : Nat) : Bool := (f k).isNone && (k == 0 || (f (par k)).isSome)
abbrev sp_is_open (A : Ad) : Sp := sp3 fun x y z H Q => ∃ t r n par f k, x = .ref t ∧ y = .ref r ∧ z = .int (k : Nat) ∧ TreeAt A H t n par ∧ Sq H r (arV n f) ∧ k < n ∧ Q (.bl (openB par f k)) H
theorem g_is_open (T : Fx K mg A) : Gf P w K mg base 1 "is_open" ["tree", "rows", "post"] (sp_is_open A) := by
  refine gf3 T.d_is_open sc_is_open (fun _ _ _ _ _ _ us hl => match us, hl with | [_, _, _], _ => rfl) ?_
  rintro v1 v2 v3 f cdv A' outer s E H Q hr ⟨t, r, n, par, g, k, rfl, rfl, rfl, ht, hq, hk, q⟩
  refine ⟨_, (pss_one (ps_ret (pe_and (pe_cmpR op_isN (pe_ix ix_seq (pv 1) (pv 2) (fun _ _ => rfl)) pe_non (nomark _)) (pe_one (pe_or (pe_cmpR op_eq (pv 2) pe_int (nomark _)) (pe_one (pe_cmpR op_notN (pe_ix ix_seq (pv 1) (pe_ix ix_tup (pe_fld (pv 0) rfl) (pv 2) (fun _ _ => rfl)) (fun _ _ => rfl)) pe_non (nomark _)))))))), ?_⟩
  obtain ⟨ok, dx, a, b, cs, h1, h2, h3, h4, h5⟩ := ht
  refine ⟨_, rfl, _, rfl, ixs hq (arV_at hk) ⟨rfl, _, rfl, ?_⟩⟩
  unfold openB at q
  cases e : g k with
  | some x => 
    rw [e] at q
    exact iteF q
  | none =>
    rw [e] at q
    refine ifT rfl ?_
    refine ⟨_, rfl, rfl, _, rfl, ?_⟩
    by_cases k0 : k = 0
    · subst k0
      exact ifT (decide_eq_true rfl) q
    · refine ifF (decide_eq_false (by intro z; cases z; exact k0 rfl)) ?_
      have lt := ok.lt k (by omega) hk
      refine ⟨_, rfl, _, rfl, t, _, dx, _, _, rfl, h1, T.cl_T, T.n_T_above, fT_above _ _, ?_⟩
      refine ⟨_, rfl, a, _, _, _, rfl, rfl, SqT.of h2, chO_at hk (by omega), ixs hq (arV_at (by omega)) ⟨rfl, ?_⟩⟩
      have e3 : (k == 0) = false := by simpa using k0
      rw [e3] at q
      cases e2 : g (par k) with
      | none => rw [e2] at q; exact q
      | some z => rw [e2] at q; exact q
end MV
end

section
set_option Elab.async false
set_option autoImplicit false
set_option linter.all false
set_option maxRecDepth 100000
set_option maxHeartbeats 4000000
namespace MV
open PySem PySem.Spec PyProof.Rows L2 L3 MU PySem.W
variable {P : Program} {w : World} {K : PySem.W.Frag} {mg : Str → Option Value} {base : Heap} {A : Ad}
/-! ### a dict comprehension over anything -/
theorem dc_it {J : It} {n : Nat} {G : Hp → Prop} {Y : Nat → Hp → V → Hp → Prop} (w : Walk J n G Y) {g : TG} {tt : TT} {tk tv : TE} {vs : List Nat} {σ : L2.St} {H1 : Hp} {D : Addr} {Qd : Hp → Prop} (Pv : Nat → Hp → Prop) (h0 : Pv 0 (upd H1 D (.dK []))) (hG : ∀ i H, i ≤ n → Pv i H → G H)
    (hs : ∀ i x H H', i < n → Pv i H → Y i H x H' → g x (wipe σ vs) H' fun σ2 H2 => wipe σ2 vs = wipe σ vs ∧ tt σ2 H2 fun b H3 =>
      if b = true then tk σ2 H3 fun y H4 => tv σ2 H4 fun z H5 => ∃ kvs k, y = kV k ∧ H5 D = some (.dK kvs) ∧ kvs.length < sizeLine ∧ Pv (i + 1) (upd H5 D (.dK (putK kvs k z))) else Pv (i + 1) H3) (hd : ∀ H, Pv n H → Qd H) :
    ∃ W : Nat → Nat → Hp → Prop, (∃ m, W 0 m (upd H1 D (.dK []))) ∧ ∀ i m H, W i m H →
      (J.stop i H ∧ Qd H) ∨ (J.go i H ∧ ∃ Nx : Hp → Prop, (∀ H', Nx H' → ∃ m', m' < m ∧ W (i + 1) m' H') ∧ ∀ x H', J.yld i H x H' → g x (wipe σ vs) H' fun σ2 H2 => wipe σ2 vs = wipe σ vs ∧ tt σ2 H2 fun b H3 =>
        if b = true then tk σ2 H3 fun y H4 => tv σ2 H4 fun z H5 => ∃ kvs k, y = kV k ∧ H5 D = some (.dK kvs) ∧ kvs.length < sizeLine ∧ Nx (upd H5 D (.dK (putK kvs k z))) else Nx H3) := by
  refine ⟨fun i m H => m = n - i ∧ i ≤ n ∧ Pv i H, ⟨n, by simp, Nat.zero_le _, h0⟩, ?_⟩
  rintro i m H ⟨rfl, hi, p⟩
  have q := hG i H hi p
  by_cases hlt : i < n
  · exact .inr ⟨w.goes i H hlt q, Pv (i + 1), fun H' p' => ⟨n - (i + 1), by omega, rfl, hlt, p'⟩, fun x H' y => hs i x H H' hlt p (w.yields i H x H' hlt q y)⟩
  · have e : i = n := by omega
    subst e
    exact .inl ⟨w.stops H q, hd H p⟩
/-! ### posts_of_people -/
def pk (f : Nat → Option Int) (i : Nat) : List (Key × V) := (List.range i).filterMap fun k => (f k).map fun x => ((Sum.inl x : Key), V.int (k : Nat))
def ppl (f : Nat → Option Int) (n : Nat) : List Int := (List.range n).filterMap f
theorem pk_succ {f : Nat → Option Int} {i : Nat} : pk f (i + 1) = pk f i ++ (match f i with | none => [] | some x => [((Sum.inl x : Key), V.int (i : Nat))]) := by
  unfold pk
  rw [List.range_succ, List.filterMap_append]
  congr 1
  cases e : f i with
  | none => simp [e]
  | some x => simp [e]
theorem pk_none {f : Nat → Option Int} {x : Int} : ∀ {i : Nat}, (∀ j, j < i → f j ≠ some x) → valV (pk f i) (Sum.inl x : Key) = none
  | 0, _ => rfl
  | i + 1, h => by
    have ih := pk_none (f := f) (x := x) (i := i) fun j hj => h j (by omega)
    rw [pk_succ]
    cases e : f i with
    | none => rw [List.append_nil]; exact ih
    | some y =>
      have ne : y ≠ x := fun z => h i (by omega) (by rw [e, z])
      show valV (pk f i ++ [((Sum.inl y : Key), V.int (i : Nat))]) (Sum.inl x : Key) = none
      unfold valV at ih ⊢
      rw [List.find?_append]
      cases e2 : List.find? (fun kv => decide (kv.1 = (Sum.inl x : Key))) (pk f i) with
      | some q => rw [e2] at ih; cases ih
      | none =>
        simp [ne]
theorem pk_some {f : Nat → Option Int} {x : Int} (inj : ∀ i j x, f i = some x → f j = some x → i = j) {k : Nat} (hf : f k = some x) : ∀ {i : Nat}, k < i → valV (pk f i) (Sum.inl x : Key) = some (.int (k : Nat))
  | 0, h => by omega
  | i + 1, h => by
    rw [pk_succ]
    by_cases c : k = i
    · subst c
      rw [hf]
      have := pk_none (f := f) (x := x) (i := k) fun j hj e => by have := inj _ _ _ e hf; omega
      show valV (pk f k ++ [((Sum.inl x : Key), V.int (k : Nat))]) (Sum.inl x : Key) = _
      rw [valV_snoc _ _ _ _ this, if_pos rfl]
    · have ih := pk_some inj hf (i := i) (by omega)
      unfold valV at ih ⊢
      rw [List.find?_append]
      cases e2 : List.find? (fun kv => decide (kv.1 = (Sum.inl x : Key))) (pk f i) with
      | some q => rw [e2] at ih; exact ih
      | none => rw [e2] at ih; cases ih
theorem pk_len {f : Nat → Option Int} {i : Nat} : (pk f i).length ≤ i := by
  unfold pk
  exact Nat.le_trans (List.length_filterMap_le _ _) (by simp)
theorem pk_keys {f : Nat → Option Int} {i : Nat} : (pk f i).map (·.1) = (ppl f i).map Sum.inl := by
  unfold pk ppl
  rw [List.map_filterMap, List.map_filterMap]
  congr 1
  funext k
  cases f k <;> rfl
abbrev sp_posts_of_people : Sp := sp1 fun x H Q => ∃ a n f, x = .ref a ∧ H a = some (.tup (arV n f)) ∧ n ≤ 8 ∧ (∀ i j x, f i = some x → f j = some x → i = j) ∧ ∀ d H', Same H H' → H d = none → H' d = some (.dK (pk f n)) → Q (.ref d) H'
theorem g_posts_of_people (T : Fx K mg A) : Gf P w K mg base 1 "posts_of_people" ["arrangement"] (sp_posts_of_people) := by
  refine gf1 T.d_posts_of_people sc_posts_of_people (fun _ _ _ _ _ _ us hl => match us, hl with | [_], _ => rfl) ?_
  rintro v1 f cdv A' outer s E H Q hr ⟨a, n, g, rfl, ha, hn, inj, q⟩
  refine ⟨_, (pss_one (ps_ret (pe_dc (own := [("post", 1), ("person", 2)]) (g := gTup K 2 (gCons (gName 1) (gCons (gName 2) gNil))) rfl sc_posts_of_people.nd (pi_enumT (by rfl) T.b_enumerate (pa_cons (pv 0) pa_nil)) (blkOk_by (N := ["arrangement", "post", "person"]) (sc := defScope s_posts_of_people) (by decide +kernel)) (fun _ _ _ _ _ => pg_tup rfl (pgs_cons (pg_name (i := 1) sc_posts_of_people.nd rfl (by first | exact Or.inl rfl | exact Or.inr rfl)) (pgs_cons (pg_name (i := 2) sc_posts_of_people.nd rfl (by first | exact Or.inl rfl | exact Or.inr rfl)) pgs_nil))) (fun _ _ _ _ _ => (pts_one (pt_cmpR op_notN (pv 2) pe_non (nomark _)))) (fun _ _ _ _ _ => (pv 2)) (fun _ _ _ _ _ => (pv 1))))), ?_⟩
  refine ⟨_, rfl, a, _, rfl, SqT.of ha, fun D hD => ?_⟩
  refine dc_it (walk_enumT (xs := arV n g)) (fun i H' => Same H H' ∧ H' D = some (.dK (pk g i))) ⟨Same.new hD, upd_same⟩ (fun i H' _ h => SqT.of (h.1 _ _ ha)) ?_ ?_
  · rintro i x H1 H2 hi ⟨sm, h1⟩ ⟨T1, x1, y1, rfl, hT, rfl, e1, e2⟩
    cases e1
    obtain ⟨hin, rfl⟩ := arV_geti e2
    refine gpair upd_same ?_
    have sm2 := Same.tr sm (Same.new (o := .tup [.int (i : Nat), oV (g i)]) hT)
    have h2 := Same.new (o := .tup [.int (i : Nat), oV (g i)]) hT _ _ h1
    refine ⟨rfl, _, rfl, rfl, _, rfl, ?_⟩
    cases e : g i with
    | none =>
      rw [e] at sm2 h2
      refine iteF ⟨sm2, ?_⟩
      rw [pk_succ, e, List.append_nil]; exact h2
    | some x =>
      rw [e] at sm2 h2
      refine ifT rfl ?_
      refine ⟨_, rfl, _, rfl, _, Sum.inl x, rfl, h2, small1000 (by have := pk_len (f := g) (i := i); omega), ?_, ?_⟩
      · exact fun b o e => by rw [upd_ne (ne_of_none e hD)]; exact sm2 _ _ e
      · rw [upd_same, putK_new _ (pk_none fun j hj e' => by have := inj _ _ _ e' e; omega), pk_succ, e]
  · rintro H1 ⟨sm, h1⟩
    rw [arV_len] at h1
    exact q D _ sm hD h1
/-! ### move_up -/
def Kp (r : Addr) (H H' : Hp) : Prop := ∀ b o, b ≠ r → H b = some o → H' b = some o
/-- a list of rows stands apart from the tree -/
structure Rw (A : Ad) (H : Hp) (t r : Addr) (n : Nat) (par : Nat → Nat) (g : Nat → Option Int) : Prop where
  fr : ∃ HT, TreeAt A HT t n par ∧ Same HT H ∧ HT r = none
  at_ : H r = some (.lst (arV n g))
theorem Rw.tree {H : Hp} {t r : Addr} {n : Nat} {par : Nat → Nat} {g : Nat → Option Int} (h : Rw A H t r n par g) : TreeAt A H t n par := by
  obtain ⟨HT, a, b, _⟩ := h.fr
  exact a.same b
theorem Rw.next {H H' : Hp} {t r : Addr} {n : Nat} {par : Nat → Nat} {g g' : Nat → Option Int} (h : Rw A H t r n par g) (k : Kp r H H') (e : H' r = some (.lst (arV n g'))) : Rw A H' t r n par g' := by
  obtain ⟨HT, a, b, c⟩ := h.fr
  exact ⟨⟨HT, a, fun p o hp => k p o (fun z => by subst z; rw [c] at hp; cases hp) (b _ _ hp), c⟩, e⟩
theorem Kp.same {H H' : Hp} {r : Addr} (h : Same H H') : Kp r H H' := fun b o _ e => h b o e
theorem Kp.tr {H1 H2 H3 : Hp} {r : Addr} (a : Kp r H1 H2) (b : Kp r H2 H3) : Kp r H1 H3 := fun p o hp e => b p o hp (a p o hp e)
theorem Kp.upd_ {H : Hp} {r : Addr} {o : HO} : Kp r H (upd H r o) := fun b u hb e => by rw [upd_ne hb]; exact e
theorem arV_set {n : Nat} {g : Nat → Option Int} {k : Nat} {v : Option Int} : (arV n g).set k (oV v) = arV n (fset g k v) := by
  apply List.ext_getElem?
  intro i
  rw [List.getElem?_set]
  rcases Nat.lt_or_ge i n with h | h
  · rw [arV_get h, arV_len]
    by_cases c : k = i
    · subst c; rw [if_pos rfl, if_pos h, arV_get h, fset_same]
    · rw [if_neg c, arV_get h, fset_ne _ _ (fun z => c z.symm)]
  · rw [List.getElem?_eq_none (by rw [arV_len]; exact h), List.getElem?_eq_none (by rw [arV_len]; exact h), arV_len]
    split
    · rw [if_neg (by omega)]
    · rfl
theorem ixN_nat {n k : Nat} (h : k < n) : ixN n (k : Int) = some k := by
  unfold ixN
  rw [if_pos (by omega), if_pos (by omega)]; simp
theorem mem_kids {par : Nat → Nat} {n k j : Nat} : j ∈ kidsU par n k ↔ j < n ∧ 0 < j ∧ par j = k := by
  unfold kidsU
  rw [List.mem_filter, List.mem_range, decide_eq_true_iff]
def heldL (g : Nat → Option Int) (l : List Nat) : List (Int × Int) := l.filterMap fun j => (g j).map fun x => (x, (j : Int))
theorem heldL_snoc {g : Nat → Option Int} {l : List Nat} {j : Nat} : heldL g (l ++ [j]) = heldL g l ++ (match g j with | none => [] | some x => [(x, (j : Int))]) := by
  unfold heldL
  rw [List.filterMap_append]
  congr 1
  cases e : g j <;> simp [e]
theorem mem_held' {g : Nat → Option Int} {l : List Nat} {v c : Int} (h : (v, c) ∈ heldL g l) : ∃ j : Nat, c = (j : Int) ∧ j ∈ l ∧ g j = some v := by
  unfold heldL at h
  obtain ⟨j, hj, e⟩ := List.mem_filterMap.mp h
  obtain ⟨x, e1, e2⟩ := Option.map_eq_some_iff.mp e
  cases e2
  exact ⟨j, rfl, hj, e1⟩
theorem mem_held {g : Nat → Option Int} {l : List Nat} {v : Int} {j : Nat} : (v, (j : Int)) ∈ heldL g l ↔ j ∈ l ∧ g j = some v := by
  constructor
  · intro h
    obtain ⟨i, e, a, b⟩ := mem_held' h
    have : i = j := by omega
    subst this; exact ⟨a, b⟩
  · rintro ⟨a, b⟩
    unfold heldL
    exact List.mem_filterMap.mpr ⟨j, a, by rw [b]; rfl⟩
def prAt (H : Hp) (p : Addr) (x : Int × Int) : Prop := H p = some (.tup [.int x.1, .int x.2])
theorem paired_snoc {α β : Type} {F : α → β → Prop} : ∀ {xs : List α} {ys : List β} {x : α} {y : β}, Paired F xs ys → F x y → Paired F (xs ++ [x]) (ys ++ [y])
  | _, _, _, _, .nil, h => .cons h .nil
  | _, _, _, _, .cons a t, h => .cons a (paired_snoc t h)
theorem paired_up {α β : Type} {F G : α → β → Prop} : ∀ {xs : List α} {ys : List β}, Paired F xs ys → (∀ a b, F a b → G a b) → Paired G xs ys
  | _, _, .nil, h => .nil
  | _, _, .cons a t, h => .cons (h _ _ a) (paired_up t h)
theorem dp_pairs_all {K : PySem.W.Frag} {H : Hp} : ∀ {ps : List Addr} {xs : List (Int × Int)}, Paired (prAt H) ps xs → DpAll K H (ps.map V.ref) (xs.map Datum.toD)
  | _, _, .nil => .nil
  | _, _, .cons a t => .cons (Dp.tup (SqT.of a) (.cons (.int _) (.cons (.int _) .nil))) (dp_pairs_all t)
theorem dp_pairs {K : PySem.W.Frag} {H : Hp} {a : Addr} {ps : List Addr} {xs : List (Int × Int)} (h : SqL K H a (ps.map V.ref)) (p : Paired (prAt H) ps xs) : Dp K H (.ref a) (Datum.toD xs) := .lst h (dp_pairs_all p)
abbrev sp_move_up (A : Ad) : Sp := sp3 fun x y z H Q => ∃ t r n par g k, x = .ref t ∧ y = .ref r ∧ z = .int (k : Nat) ∧ Rw A H t r n par g ∧ k < n ∧
  (∀ H', Same H H' → (∀ j, 0 < j → j < n → par j = k → g j = none) → Q .non H') ∧
  (∀ H' c v, 0 < c → c < n → par c = k → g c = some v → (∀ j u, 0 < j → j < n → par j = k → g j = some u → v ≤ u) → Kp r H H' → H' r = some (.lst (arV n (fset (fset g k (some v)) c none))) → Q (.int (c : Nat)) H')
theorem g_move_up (T : Fx K mg A) : Gf P w K mg base 1 "move_up" ["tree", "rows", "post"] (sp_move_up A) := by
  refine gf3 T.d_move_up sc_move_up (fun _ _ _ _ _ _ us hl => match us, hl with | [_, _, _], _ => rfl) ?_
  rintro v1 v2 v3 f cdv A' outer s E H Q hr ⟨t, r, n, par, g, k, rfl, rfl, rfl, hw, hk, q1, q2⟩
  refine ⟨_, (pss_cons (ps_setLc (i := 3) (own := [("lower", 4)]) (g := gName 4) rfl sc_move_up.nd rfl rfl (sw_true rfl rfl rfl (by decide +kernel)) (pi_list (pe_ix ix_list (pe_fld (pv 0) rfl) (pv 2) (fun _ _ => rfl))) (blkOk_by (N := ["tree", "rows", "post", "held", "lower", "person"]) (sc := defScope s_move_up) (by decide +kernel)) (fun _ _ _ _ _ => pg_name (i := 4) sc_move_up.nd rfl (by first | exact Or.inl rfl | exact Or.inr rfl)) (fun _ _ _ _ _ => (pts_one (pt_cmpR op_notN (pe_ix (ixLK K) (pv 1) (pv 4) (fun _ _ => rfl)) pe_non (nomark _)))) (fun _ _ _ _ _ => (pe_tup (pa_cons (pe_ix (ixLK K) (pv 1) (pv 4) (fun _ _ => rfl)) (pa_cons (pv 4) pa_nil)))))
      (pss_cons (ps_if (pt_cmpR (eqP (List (Int × Int)) hr (by decide)) (pv 3) (pe_lst pa_nil) (nomark _)) (pss_one (ps_ret pe_non)) pss_nil)
      (pss_cons (ps_asg (pe_callB (cr_minP rfl (Nat.lt_of_le_of_lt (Nat.add_le_add_left (by decide : 2 ≤ 64) _) hr.units)) (by rfl) T.b_min (by decide +kernel) (pa_cons (pv 3) pa_nil)) (pg_tup rfl (pgs_cons (pg_name (i := 5) sc_move_up.nd rfl (by first | exact Or.inl rfl | exact Or.inr rfl)) (pgs_cons (pg_name (i := 4) sc_move_up.nd rfl (by first | exact Or.inl rfl | exact Or.inr rfl)) pgs_nil))))
      (pss_cons (ps_asg (pe_tup (pa_cons (pv 5) (pa_cons pe_non pa_nil))) (pg_tup rfl (pgs_cons (pg_sub (pv 1) (pv 2) set_list) (pgs_cons (pg_sub (pv 1) (pv 4) set_list) pgs_nil))))
      (pss_one (ps_ret (pv 4))))))), ?_⟩
  obtain ⟨ok, dx, a, b, cs, h1, h2, h3, h4, h5⟩ := hw.tree
  obtain ⟨c0, hc0⟩ : ∃ c, cs[k]? = some c := ⟨cs[k]'(by omega), by simp [show k < cs.length by omega]⟩
  have hcm : (cs.map V.ref)[k]? = some (.ref c0) := by rw [List.getElem?_map, hc0]; rfl
  have hkid := h5 _ _ hc0
  refine ⟨_, rfl, t, _, dx, _, _, rfl, h1, T.cl_T, T.n_T_below, fT_below _ _, ?_⟩
  refine ⟨_, rfl, b, _, _, _, rfl, rfl, SqL.of h4, atI_nat hcm, c0, rfl, ⟨_, SqL.of hkid⟩, fun D hD => ?_⟩
  have n8 := ok.le
  have kl : (kidsU par n k).length ≤ 8 := by unfold kidsU; exact Nat.le_trans (List.length_filter_le _ _) (by simpa using n8)
  refine lc_it walk_list (fun i H' => Same H H' ∧ ∃ ps : List Addr, H' D = some (.lst (ps.map V.ref)) ∧ Paired (prAt H') ps (heldL g ((kidsU par n k).take i)) ∧ ps.length ≤ i)
    ⟨Same.new hD, [], upd_same, .nil, Nat.le_refl _⟩ (fun i H' _ h => SqL.of (h.1 _ _ hkid)) ?_ ?_
  · rintro i x H1 H2 hi ⟨sm, ps, g1, g2, g3⟩ ⟨rfl, e⟩
    unfold natV at e
    rw [List.getElem?_map] at e
    obtain ⟨j, hj, rfl⟩ := Option.map_eq_some_iff.mp e
    have hjm := List.mem_of_getElem? hj
    obtain ⟨jn, j0, jp⟩ := mem_kids.mp hjm
    have et : (kidsU par n k).take (i + 1) = (kidsU par n k).take i ++ [j] := by
      rw [List.take_add_one, hj]; rfl
    refine ⟨rfl, _, rfl, _, rfl, r, _, _, _, rfl, rfl, SqL.of (sm _ _ hw.at_), arV_at jn, rfl, _, rfl, ?_⟩
    rw [et]
    cases eg : g j with
    | none =>
      refine iteF ⟨sm, ps, g1, ?_, by omega⟩
      rw [heldL_snoc, eg, List.append_nil]; exact g2
    | some u =>
      refine ifT rfl ?_
      refine ⟨_, rfl, _, rfl, r, _, _, _, rfl, rfl, SqL.of (sm _ _ hw.at_), arV_at jn, _, rfl, by show 2 ≤ sizeLine; decide, fun p hp => ?_⟩
      rw [eg]
      have hpD : p ≠ D := (ne_of_none g1 hp).symm
      refine ⟨ps.map V.ref, by rw [upd_ne hpD.symm]; exact g1, by rw [List.length_map]; exact small1000 (by unfold natV at hi; rw [List.length_map] at hi; omega), fun b o e => by rw [upd_ne (ne_of_none e hD), upd_ne (ne_of_none (sm _ _ e) hp)]; exact sm _ _ e, ps ++ [p], by rw [upd_same, List.map_append]; rfl, ?_, by simp; omega⟩
      rw [heldL_snoc, eg]
      refine paired_snoc (paired_up g2 fun b xx hb => ?_) ?_
      · have b1 : b ≠ p := ne_of_none hb hp
        have b2 : b ≠ D := fun z => by subst z; unfold prAt at hb; rw [g1] at hb; cases hb
        unfold prAt; rw [upd_ne b2, upd_ne b1]; exact hb
      · show upd _ _ _ p = _
        rw [upd_ne hpD, upd_same]; rfl
  rintro H1 ⟨sm, ps, g1, g2, g3⟩
  have ek : (kidsU par n k).take (natV (kidsU par n k)).length = kidsU par n k := by unfold natV; rw [List.length_map, List.take_length]
  rw [ek] at g2
  refine ⟨_, rfl, Nat.zero_le _, fun p hp => ⟨heldL g (kidsU par n k), [], dp_pairs (SqL.of (Same.new hp _ _ g1)) (paired_up g2 fun b xx hb => Same.new hp _ _ hb), dp_pairs (ps := []) (SqL.of upd_same) .nil, _, rfl, ?_⟩⟩
  have sm1 := Same.tr sm (Same.new (o := .lst []) hp)
  by_cases e0 : heldL g (kidsU par n k) = []
  · refine ifT (decide_eq_true e0) ?_
    refine q1 _ sm1 fun j j0 jn jp => ?_
    cases eg : g j with
    | none => rfl
    | some u =>
      have := mem_held.mpr ⟨mem_kids.mpr ⟨jn, j0, jp⟩, eg⟩
      rw [e0] at this; cases this
  · refine ifF (decide_eq_false e0) ?_
    refine ⟨_, rfl, D, ps, _, rfl, SqL.of (Same.new hp _ _ g1), paired_up g2 fun b xx hb => Same.new hp _ _ hb, List.length_pos_iff.mpr e0, fun i p2 x e1 e2 hle => ?_⟩
    obtain ⟨p3, e3, hx⟩ := paired_at g2 e2
    rw [e1] at e3; cases e3
    obtain ⟨xv, xc⟩ := x
    obtain ⟨c, rfl, hcm, hcv⟩ := mem_held' (List.mem_of_getElem? e2)
    obtain ⟨cn, c0', cp⟩ := mem_kids.mp hcm
    refine gpair (Same.new hp _ _ hx) ?_
    refine ⟨_, rfl, by show 2 ≤ sizeLine; decide, fun p4 hp4 => ?_⟩
    have sm2 := Same.tr sm1 (Same.new (o := .tup [.int xv, .non]) hp4)
    refine ⟨p4, _, rfl, SqT.of upd_same, rfl, _, _, rfl, ?_⟩
    have hrr := sm2 _ _ hw.at_
    have hrp : r ≠ p4 := ne_of_none (sm1 _ _ hw.at_) hp4
    refine ⟨_, rfl, _, rfl, r, _, _, k, rfl, rfl, hrr, ixN_nat (by rw [arV_len]; exact hk), ?_⟩
    refine ⟨_, _, rfl, _, rfl, _, rfl, r, _, _, c, rfl, rfl, upd_same, ixN_nat (by rw [List.length_set, arV_len]; exact cn), rfl, ?_⟩
    rw [show V.int xv = oV (some xv) from rfl, arV_set, show V.non = oV none from rfl, arV_set]
    refine ⟨_, rfl, q2 _ c xv c0' cn cp hcv (fun j u j0 jn jp eg => ?_) ?_ upd_same⟩
    · exact hle (u, (j : Int)) (mem_held.mpr ⟨mem_kids.mpr ⟨jn, j0, jp⟩, eg⟩)
    · exact Kp.tr (Kp.same sm2) (Kp.tr Kp.upd_ Kp.upd_)
end MV
end

section
set_option Elab.async false
set_option autoImplicit false
set_option linter.all false
set_option maxRecDepth 100000
set_option maxHeartbeats 4000000
namespace MV
open PySem PySem.Spec PyProof.Rows L2 L3 MU PySem.W
variable {P : Program} {w : World} {K : PySem.W.Frag} {mg : Str → Option Value} {base : Heap} {A : Ad}
/-! ### leave_one -/
theorem eqV_oV {o : Option Int} {x : Int} : eqV (oV o) (.int x) = decide (o = some x) := by
  cases o with
  | none => rfl
  | some y =>
    show decide (y = x) = decide (some y = some x)
    by_cases c : y = x
    · subst c; rw [decide_eq_true rfl, decide_eq_true rfl]
    · rw [decide_eq_false c, decide_eq_false (fun z => c (Option.some.inj z))]
abbrev sp_leave_one (A : Ad) : Sp := sp3 fun x y z H Q => ∃ t r n par g v p, x = .ref t ∧ y = .ref r ∧ z = .int v ∧ Rw A H t r n par g ∧ Valid n par g ∧ g p = some v ∧
  ∀ H' e g', LvE n par g v e g' → Kp r H H' → H' r = some (.lst (arV n g')) → Q (.int (e : Nat)) H'
theorem g_leave_one (T : Fx K mg A) : Gf P w K mg base 2 "leave_one" ["tree", "rows", "person"] (sp_leave_one A) := by
  refine gf3 T.d_leave_one sc_leave_one (fun _ _ _ _ _ _ us hl => match us, hl with | [_, _, _], _ => rfl) ?_
  rintro v1 v2 v3 f cdv A' outer s E H Q hr ⟨t, r, n, par, g, v, p, rfl, rfl, rfl, hw, va, hp, q⟩
  refine ⟨_, (pss_cons (ps_set (i := 3) sc_leave_one.nd rfl (by first | exact Or.inl rfl | exact Or.inr rfl) (pe_bm PySem.F.plainAttrs_list PySem.F.slot_list_index PySem.F.type_list_index mt_index (pv 1) (pa_cons (pv 2) pa_nil)))
      (pss_cons (ps_asg pe_non (pg_sub (pv 1) (pv 3) set_list))
      (pss_cons (ps_set (i := 4) sc_leave_one.nd rfl (by first | exact Or.inl rfl | exact Or.inr rfl) (pe_g (g_move_up T) hr (pa_cons (pv 0) (pa_cons (pv 1) (pa_cons (pv 3) pa_nil)))))
      (pss_cons (ps_while PassesOwn.never (pt_cmpR op_notN (pv 4) pe_non (nomark _))
      (pss_cons (ps_set (i := 3) sc_leave_one.nd rfl (by first | exact Or.inl rfl | exact Or.inr rfl) (pv 4))
      (pss_one (ps_set (i := 4) sc_leave_one.nd rfl (by first | exact Or.inl rfl | exact Or.inr rfl) (pe_g (g_move_up T) hr (pa_cons (pv 0) (pa_cons (pv 1) (pa_cons (pv 3) pa_nil))))))))
      (pss_one (ps_ret (pv 3))))))), ?_⟩
  have ok := hw.tree.ok
  have pn := va.lt hp
  refine ⟨_, rfl, .inl ⟨rfl, _, SqL.of hw.at_⟩, _, rfl, r, _, _, p, _, rfl, rfl, SqL.of hw.at_, rfl, flat_arV, arV_get pn, by rw [hp]; exact decide_eq_true rfl, ?_, ?_⟩
  · intro m z hm hz
    obtain ⟨_, rfl⟩ := arV_geti hz
    rw [eqV_oV]
    refine decide_eq_false fun e => ?_
    have := va.inj _ _ _ e hp
    omega
  refine ⟨_, rfl, _, rfl, r, _, _, p, rfl, rfl, hw.at_, ixN_nat (by rw [arV_len]; exact pn), ?_⟩
  have hole := Hole.start ok va hp
  have w2 : Rw A (upd H r (.lst ((arV n g).set p .non))) t r n par (fset g p none) := hw.next Kp.upd_ (upd_same.trans (by rw [show V.non = oV none from rfl, arV_set]))
  have kA : ∀ {H1 H' : Hp} {c : Nat} {g1 : Nat → Option Int}, Rw A H1 t r n par g1 → Kp r H H1 → Hole n par g v c g1 → Same H1 H' → (∀ j, 0 < j → j < n → par j = c → g1 j = none) → Kp r H H' ∧ Rw A H' t r n par g1 ∧ LvE n par g v c g1 := by
    intro H1 H' c g1 w1 k1 h1 sm no
    refine ⟨k1.tr (Kp.same sm), w1.next (Kp.same sm) (sm _ _ w1.at_), h1.fin fun k k0 kp => ?_⟩
    rcases Nat.lt_or_ge k n with l | l
    · exact no k k0 l kp
    · exact h1.out k l
  have kB : ∀ {H1 H' : Hp} {c d : Nat} {u : Int} {g1 : Nat → Option Int}, Rw A H1 t r n par g1 → Kp r H H1 → Hole n par g v c g1 → 0 < d → d < n → par d = c → g1 d = some u → (∀ j z, 0 < j → j < n → par j = c → g1 j = some z → u ≤ z) → Kp r H1 H' → H' r = some (.lst (arV n (fset (fset g1 c (some u)) d none))) →
      c < d ∧ Kp r H H' ∧ Rw A H' t r n par (fset (fset g1 c (some u)) d none) ∧ Hole n par g v d (fset (fset g1 c (some u)) d none) := by
    intro H1 H' c d u g1 w1 k1 h1 d0 dn dp gd mn k2 e2
    have lt := ok.lt d d0 dn
    refine ⟨by omega, k1.tr k2, w1.next k2 e2, h1.down ok d0 dn dp gd fun k u k0 kp gk => ?_⟩
    rcases Nat.lt_or_ge k n with l | l
    · exact mn k u k0 l kp gk
    · rw [h1.out k l] at gk; cases gk
  have loop : ∀ (H1 : Hp) (c : Nat) (lw : V) (g1 : Nat → Option Int), Kp r H H1 → Rw A H1 t r n par g1 → ((lw = .non ∧ LvE n par g v c g1) ∨ ∃ d : Nat, lw = .int (d : Nat) ∧ Hole n par g v d g1) →
      tSeq (tWhile (tTest (tOp (fun x y H Q => y = V.non ∧ Q (V.bl !decide (x = V.non)) H) (tVar 4) (tC V.non))) (tSeq (tAsg (tVar 4) (gName 3)) (tAsg (tCall (sp_move_up A) [] E0 (tCons (tVar 0) (tCons (tVar 1) (tCons (tVar 3) tNil)))) (gName 4)))) (tRet (tVar 3))
        { nx := fun x H' => Q .non H', rt := Q } [some (.ref t), some (.ref r), some (.int v), some (.int (c : Nat)), some lw] H1 := by
    intro H1 c lw g1 k1 w1 hh
    refine ⟨fun m σ H' => ∃ (c : Nat) (lw : V) (g1 : Nat → Option Int), σ = [some (.ref t), some (.ref r), some (.int v), some (.int (c : Nat)), some lw] ∧ Kp r H H' ∧ Rw A H' t r n par g1 ∧ ((lw = .non ∧ LvE n par g v c g1 ∧ m = 0) ∨ ∃ d : Nat, lw = .int (d : Nat) ∧ Hole n par g v d g1 ∧ m = n - d), ?_, ?_⟩
    · rcases hh with ⟨a, b⟩ | ⟨d, a, b⟩
      · exact ⟨0, c, lw, g1, rfl, k1, w1, .inl ⟨a, b, rfl⟩⟩
      · exact ⟨n - d, c, lw, g1, rfl, k1, w1, .inr ⟨d, a, b, rfl⟩⟩
    · rintro m σ H2 ⟨c, lw, g1, rfl, k1, w1, ⟨rfl, lv, rfl⟩ | ⟨d, rfl, ho, rfl⟩⟩
      · refine ⟨_, rfl, rfl, _, rfl, ?_⟩
        refine ifF rfl ?_
        exact ⟨_, rfl, q H2 c g1 lv k1 w1.at_⟩
      · refine ⟨_, rfl, rfl, _, rfl, ?_⟩
        refine ifT rfl ?_
        refine ⟨fun σ H' => ∃ (c : Nat) (lw : V) (g1 : Nat → Option Int), σ = [some (.ref t), some (.ref r), some (.int v), some (.int (c : Nat)), some lw] ∧ Kp r H H' ∧ Rw A H' t r n par g1 ∧ ((lw = .non ∧ LvE n par g v c g1) ∨ ∃ d' : Nat, d < d' ∧ d' < n ∧ lw = .int (d' : Nat) ∧ Hole n par g v d' g1), ?_, ?_⟩
        · have dn := ho.pn
          rintro σ' H' ⟨c', lw', g', e1, e2, e3, ⟨e4, e5⟩ | ⟨d', l1, l2, e4, e5⟩⟩
          · exact ⟨0, by omega, c', lw', g', e1, e2, e3, .inl ⟨e4, e5, rfl⟩⟩
          · exact ⟨n - d', by omega, c', lw', g', e1, e2, e3, .inr ⟨d', e4, e5, rfl⟩⟩
        · refine ⟨_, rfl, ?_⟩
          refine ⟨_, rfl, _, rfl, _, rfl, t, r, n, par, g1, d, rfl, rfl, rfl, w1, ho.pn, fun H' sm no => ?_, fun H' d' u d0 dn dp gd mn k2 e2 => ?_⟩
          · obtain ⟨a1, a2, a3⟩ := kA w1 k1 ho sm no
            exact ⟨d, .non, g1, rfl, a1, a2, .inl ⟨rfl, a3⟩⟩
          · obtain ⟨a0, a1, a2, a3⟩ := kB w1 k1 ho d0 dn dp gd mn k2 e2
            exact ⟨d, _, _, rfl, a1, a2, .inr ⟨d', a0, dn, rfl, a3⟩⟩
  refine ⟨_, rfl, _, rfl, _, rfl, t, r, n, par, _, p, rfl, rfl, rfl, w2, pn, fun H' sm no => ?_, fun H' d u d0 dn dp gd mn k2 e2 => ?_⟩
  · obtain ⟨a1, a2, a3⟩ := kA w2 Kp.upd_ hole sm no
    exact loop _ _ _ _ a1 a2 (.inl ⟨rfl, a3⟩)
  · obtain ⟨a0, a1, a2, a3⟩ := kB w2 Kp.upd_ hole d0 dn dp gd mn k2 e2
    exact loop _ _ _ _ a1 a2 (.inr ⟨d, rfl, a3⟩)
theorem nodup_len {α : Type} [DecidableEq α] : ∀ {l1 l2 : List α}, l1.Nodup → (∀ k ∈ l1, k ∈ l2) → l1.length ≤ l2.length
  | [], _, _, _ => Nat.zero_le _
  | x :: l1, l2, h, s => by
    have hx := s x List.mem_cons_self
    have h1 := List.nodup_cons.mp h
    have := nodup_len (l1 := l1) (l2 := l2.erase x) h1.2 fun k hk => by
      refine (List.mem_erase_of_ne ?_).mpr (s k (List.mem_cons_of_mem _ hk))
      rintro rfl; exact h1.1 hk
    rw [List.length_erase_of_mem hx] at this
    have : 0 < l2.length := List.length_pos_of_mem hx
    simp; omega
theorem cutV_last {xs : List V} (h : 0 < xs.length) : cutV xs none (some (-1)) = xs.dropLast := by
  unfold cutV
  have e1 : HT.sIx xs.length 0 none = 0 := rfl
  have e2 : HT.sIx xs.length xs.length (some (-1)) = xs.length - 1 := by
    show (if (-1 : Int) < 0 then (-1 + (xs.length : Int)).toNat else min (-1 : Int).toNat xs.length) = _
    rw [if_pos (by decide)]; omega
  rw [e1, e2, List.drop_zero, List.dropLast_eq_take, Nat.sub_zero]
theorem fT_path (a b : V) : (fT a b).lookup ("path" : Str) = none := by kernel_rfl
theorem fT_common (a b : V) : (fT a b).lookup ("common" : Str) = none := by kernel_rfl
/-! ### join_one -/
abbrev sp_join_one (A : Ad) : Sp := sp4 fun x y z u H Q => ∃ t r n par g v e, x = .ref t ∧ y = .ref r ∧ z = .int v ∧ u = .int (e : Nat) ∧ Rw A H t r n par g ∧ e < n ∧ (∀ k, Above par k e → k ≠ e → ∃ y, g k = some y) ∧
  ∀ H' g', JnE par g v e g' → Kp r H H' → H' r = some (.lst (arV n g')) → Q .non H'
theorem g_join_one (T : Fx K mg A) : Gf P w K mg base 2 "join_one" ["tree", "rows", "person", "post"] (sp_join_one A) := by
  refine gf4 T.d_join_one sc_join_one (fun _ _ _ _ _ _ us hl => match us, hl with | [_, _, _, _], _ => rfl) ?_
  rintro v1 v2 v3 v4 f cdv A' outer s E H Q hr ⟨t, r, n, par, g, v, e, rfl, rfl, rfl, rfl, hw, he, hab, q⟩
  refine ⟨_, (pss_cons (ps_set (i := 4) sc_join_one.nd rfl (by first | exact Or.inl rfl | exact Or.inr rfl) (pe_m (g_Tree_path T) rfl T.cl_T hr (pv 0) (pa_cons (pv 3) pa_nil)))
      (pss_cons (ps_set (i := 5) sc_join_one.nd rfl (by first | exact Or.inl rfl | exact Or.inr rfl) (pe_callB cr_sortedI (by rfl) T.b_sorted (by decide +kernel) (pa_cons (pe_op op_cat (pe_lc (own := [("upper", 6)]) (g := gName 6) (tt := tYes) rfl sc_join_one.nd (pi_list (pe_slice sl_list (pv 4) po_none (po_some (pe_un un_neg pe_int)))) (blkOk_by (N := ["tree", "rows", "person", "post", "path", "people", "upper", "holder"]) (sc := defScope s_join_one) (by decide +kernel)) (fun _ _ _ _ _ => pg_name (i := 6) sc_join_one.nd rfl (by first | exact Or.inl rfl | exact Or.inr rfl)) (fun _ _ _ _ _ => pts_nil) (fun _ _ _ _ _ => (pe_ix (ixLK K) (pv 1) (pv 6) (fun _ _ => rfl)))) (pe_lst (pa_cons (pv 2) pa_nil))) pa_nil)))
      (pss_one (ps_for PassesOwn.never rfl (pi_zipS (by rfl) T.b_zip (pa_cons (pv 4) (pa_cons (pv 5) pa_nil)) (pk_cons pe_bl pk_nil)) (pg_tup rfl (pgs_cons (pg_name (i := 6) sc_join_one.nd rfl (by first | exact Or.inl rfl | exact Or.inr rfl)) (pgs_cons (pg_name (i := 7) sc_join_one.nd rfl (by first | exact Or.inl rfl | exact Or.inr rfl)) pgs_nil)))
      (pss_one (ps_asg (pv 7) (pg_sub (pv 1) (pv 6) set_list))))))), ?_⟩
  have ok := hw.tree.ok
  have n8 := ok.le
  obtain ⟨vs, evs⟩ := all_some (f := g) (l := (pathTo par e).dropLast) fun k hk => by
    obtain ⟨a, b⟩ := (mem_drop ok he).mp hk
    exact hab k a b
  have plen : (pathTo par e).length ≤ 8 := by
    have h1 := pathTo_nodup ok e he
    have h2 : ∀ k ∈ pathTo par e, k ∈ List.range n := fun k hk => List.mem_range.mpr (Nat.lt_of_le_of_lt (((mem_pathTo ok e he k).mp hk).le ok he) he)
    have := nodup_len h1 h2
    rw [List.length_range] at this; omega
  have vlen : vs.length = (pathTo par e).length - 1 := by
    have := congrArg List.length evs
    simpa using this.symm
  obtain ⟨_, dx, a, b, cs, h1, h2, h3, h4, h5⟩ := hw.tree
  refine ⟨_, rfl, t, dx, _, rfl, h1, fT_path _ _, _, rfl, t, n, par, e, rfl, rfl, hw.tree, he, fun pp H1 sm1 hpn hpp => ?_⟩
  have w1 := hw.next (Kp.same sm1) (sm1 _ _ hw.at_)
  have ppos : 0 < (pathTo par e).length := by rw [pathTo_last ok e he]; simp
  refine ⟨_, rfl, 1, rfl, _, rfl, pp, _, rfl, SqL.of hpp, fun p2 hp2 => ?_⟩
  rw [cutV_last (by unfold natV; rw [List.length_map]; exact ppos)]
  refine ⟨p2, rfl, ⟨_, SqL.of upd_same⟩, fun D hD => ?_⟩
  let H2 := upd H1 p2 (.lst (natV (pathTo par e)).dropLast)
  have sm2 : Same H H2 := Same.tr sm1 (Same.new hp2)
  refine lc_it walk_list (fun i H' => Same H2 H' ∧ H' D = some (.lst ((vs.take i).map V.int))) ⟨Same.new hD, upd_same⟩ (fun i H' _ h => SqL.of (h.1 _ _ upd_same)) ?_ ?_
  · rintro i x H3 H4 hi ⟨sm, e1⟩ ⟨rfl, e2⟩
    have e3 : ((pathTo par e).dropLast.map fun j => V.int (j : Nat))[i]? = some x := by
      have : (natV (pathTo par e)).dropLast = (pathTo par e).dropLast.map fun j => V.int (j : Nat) := by unfold natV; rw [List.map_dropLast]
      rw [← this]; exact e2
    rw [List.getElem?_map] at e3
    obtain ⟨k, hk, rfl⟩ := Option.map_eq_some_iff.mp e3
    obtain ⟨ka, _⟩ := (mem_drop ok he).mp (List.mem_of_getElem? hk)
    have kn : k < n := Nat.lt_of_le_of_lt (ka.le ok he) he
    obtain ⟨u, hu, gk⟩ : ∃ u, vs[i]? = some u ∧ g k = some u := by
      have h6 : ((pathTo par e).dropLast.map g)[i]? = (vs.map some)[i]? := by rw [evs]
      rw [List.getElem?_map, List.getElem?_map, hk] at h6
      obtain ⟨u, a1, a2⟩ := Option.map_eq_some_iff.mp h6.symm
      exact ⟨u, a1, a2.symm⟩
    refine ⟨rfl, _, rfl, _, rfl, r, _, _, _, rfl, rfl, SqL.of (sm _ _ (sm2 _ _ hw.at_)), arV_at kn, _, e1, ?_, ?_, ?_⟩
    · rw [List.length_map, List.length_take]; exact small1000 (by omega)
    · exact fun b o eb => by rw [upd_ne (ne_of_none eb hD)]; exact sm _ _ eb
    · rw [upd_same, List.take_add_one, hu, List.map_append, gk]; rfl
  rintro H3 ⟨sm3, e1⟩
  have e1 : H3 D = some (.lst (vs.map V.int)) := by
    have : vs.take (natV (pathTo par e)).dropLast.length = vs := by
      apply List.take_of_length_le
      rw [List.length_dropLast]; unfold natV; rw [List.length_map]; omega
    rw [← this]; exact e1
  have sm3' := sm3
  have sm3 := Same.tr sm2 sm3
  refine ⟨_, rfl, by show 1 ≤ sizeLine; decide, fun p3 hp3 => ?_⟩
  have sm4 := Same.tr sm3 (Same.new (o := .lst [.int v]) hp3)
  refine ⟨D, p3, _, _, rfl, rfl, Same.new hp3 _ _ e1, upd_same, ?_, fun p4 hp4 => ?_⟩
  · rw [List.length_map]; exact Nat.le_of_lt (small1000 (by simp; omega))
  have sm5 := Same.tr sm4 (Same.new (o := .lst (vs.map V.int ++ [.int v])) hp4)
  refine ⟨p4, vs ++ [v], rfl, SqL.of (upd_same.trans (by rw [List.map_append]; rfl)), fun ws p5 perm rising hp5 => ?_⟩
  have sm6 := Same.tr sm5 (Same.new (o := .lst (ws.map V.int)) hp5)
  have wl : ws.length = (pathTo par e).length := by rw [perm.length_eq, List.length_append, vlen]; show _ + 1 = _; omega
  generalize hH6 : upd (upd (upd H3 p3 (.lst [.int v])) p4 (.lst (vs.map V.int ++ [.int v]))) p5 (.lst (ws.map V.int)) = H6 at *
  have hpp6 : H6 pp = some (.lst (natV (pathTo par e))) := by
    rw [← hH6]
    exact Same.new hp5 _ _ (Same.new hp4 _ _ (Same.new hp3 _ _ (sm3' _ _ (Same.new hp2 _ _ hpp))))
  have hws : H6 p5 = some (.lst (ws.map V.int)) := by rw [← hH6]; exact upd_same
  have npp : pp ≠ r := fun z => by subst z; rw [hw.at_] at hpn; cases hpn
  have np5 : p5 ≠ r := fun z => by subst z; rw [sm5 _ _ hw.at_] at hp5; cases hp5
  refine ⟨_, rfl, _, rfl, pp, p5, _, _, rfl, rfl, SqL.of hpp6, SqL.of hws, ?_⟩
  refine for_it (walk_zipS (by unfold natV; rw [List.length_map, List.length_map, wl])) (fun i σ H' => (∃ u1 u2, σ = [some (.ref t), some (.ref r), some (.int v), some (.int (e : Nat)), some (.ref pp), some (.ref p5), u1, u2]) ∧ Kp r H6 H' ∧ ∃ g1 : Nat → Option Int, H' r = some (.lst (arV n g1)) ∧ ((pathTo par e).take i).map g1 = (ws.take i).map some ∧ ∀ k, k ∉ (pathTo par e).take i → g1 k = g k)
    ⟨⟨_, _, rfl⟩, Kp.same Same.refl', g, sm6 _ _ hw.at_, rfl, fun k _ => rfl⟩ (fun i σ H' _ h => ⟨SqL.of (h.2.1 _ _ npp hpp6), SqL.of (h.2.1 _ _ np5 hws)⟩) ?_ ?_
  · rintro i x σ H7 H8 hi ⟨⟨u1, u2, rfl⟩, kp, g1, c1, c2, c3⟩ ⟨T1, x1, y1, rfl, hT, rfl, e2, e3⟩
    have e2 : (natV (pathTo par e))[i]? = some x1 := e2
    have e3 : (ws.map V.int)[i]? = some y1 := e3
    unfold natV at e2
    rw [List.getElem?_map] at e2 e3
    obtain ⟨k, hk, rfl⟩ := Option.map_eq_some_iff.mp e2
    obtain ⟨u, hu, rfl⟩ := Option.map_eq_some_iff.mp e3
    have kn : k < n := Nat.lt_of_le_of_lt (((mem_pathTo ok e he k).mp (List.mem_of_getElem? hk)).le ok he) he
    have hrT : r ≠ T1 := ne_of_none c1 hT
    refine gpair upd_same ?_
    refine ⟨_, rfl, _, rfl, _, rfl, r, _, _, k, rfl, rfl, (by rw [upd_ne hrT]; exact c1), ixN_nat (by rw [arV_len]; exact kn), ?_⟩
    have nk : k ∉ (pathTo par e).take i := by
      have nd := pathTo_nodup ok e he
      intro hm
      have s : (pathTo par e).take (i + 1) = (pathTo par e).take i ++ [k] := by rw [List.take_add_one, hk]; rfl
      have := List.Nodup.sublist (List.take_sublist (i + 1) _) nd
      rw [s, List.nodup_append] at this
      exact this.2.2 k hm k (by simp) rfl
    refine ⟨⟨_, _, rfl⟩, ?_, fset g1 k (some u), ?_, ?_, ?_⟩
    · exact Kp.tr kp (Kp.tr (Kp.same (Same.new hT)) Kp.upd_)
    · rw [upd_same, show V.int u = oV (some u) from rfl, arV_set]
    · rw [List.take_add_one, List.take_add_one, hk, hu, List.map_append, List.map_append, ← c2]
      congr 1
      · exact List.map_congr_left fun j hj => fset_ne _ _ (by rintro rfl; exact nk hj)
      · show [fset g1 k (some u) k] = [some u]
        rw [fset_same]
    · intro j hj
      rw [List.take_add_one, hk] at hj
      have h1 : j ≠ k := by rintro rfl; exact hj (List.mem_append_right _ (by simp))
      have h2 : j ∉ (pathTo par e).take i := fun z => hj (List.mem_append_left _ z)
      rw [fset_ne _ _ h1]; exact c3 j h2
  · rintro σ H7 ⟨⟨u1, u2, rfl⟩, kp, g1, c1, c2, c3⟩
    have e1 : (pathTo par e).take (natV (pathTo par e)).length = pathTo par e := by unfold natV; rw [List.length_map, List.take_length]
    have e2 : ws.take (natV (pathTo par e)).length = ws := by unfold natV; rw [List.length_map, ← wl, List.take_length]
    rw [e1, e2] at c2
    rw [e1] at c3
    exact q H7 g1 ⟨⟨vs, ws, evs, perm, rising, c2⟩, c3⟩ (Kp.tr (Kp.same sm6) kp) c1
/-! ### open_posts -/
def openL (par : Nat → Nat) (f : Nat → Option Int) (n : Nat) : List Nat := (List.range n).filter (openB par f)
abbrev sp_open_posts : Sp := sp2 fun x y H Q => ∃ c a n par f, x = .ref c ∧ y = .ref a ∧ H c = some (.tup (chV n par)) ∧ H a = some (.tup (arV n f)) ∧ TreeOk n par ∧ Valid n par f ∧ ∀ p H', Same H H' → H' p = some (.lst (natV (openL par f n))) → Q (.ref p) H'
theorem g_open_posts (T : Fx K mg A) : Gf P w K mg base 5 "open_posts" ["chart", "arrangement"] (sp_open_posts) := by
  refine gf2 T.d_open_posts sc_open_posts (fun _ _ _ _ _ _ us hl => match us, hl with | [_, _], _ => rfl) ?_
  rintro v1 v2 f cdv A' outer s E H Q hr ⟨c, a, n, par, g, rfl, rfl, hc, ha, ok, va, q⟩
  refine ⟨_, (pss_cons (ps_expr (pe_g (g_require_chart T) hr (pa_cons (pv 0) pa_nil)))
      (pss_cons (ps_expr (pe_g (g_require_arrangement T) hr (pa_cons (pv 0) (pa_cons (pv 1) pa_nil))))
      (pss_cons (ps_set (i := 2) sc_open_posts.nd rfl (by first | exact Or.inl rfl | exact Or.inr rfl) (pe_mk (g_Tree_init T) hr (pa_cons (pv 0) pa_nil)))
      (pss_one (ps_ret (pe_lc (own := [("post", 3)]) (g := gName 3) rfl sc_open_posts.nd (pi_range1 (by rfl) T.b_range (pa_cons (pe_callB call_len_seq (by rfl) T.b_len (by decide +kernel) (pa_cons (pv 0) pa_nil)) pa_nil)) (blkOk_by (N := ["chart", "arrangement", "tree", "post"]) (sc := defScope s_open_posts) (by decide +kernel)) (fun _ _ _ _ _ => pg_name (i := 3) sc_open_posts.nd rfl (by first | exact Or.inl rfl | exact Or.inr rfl)) (fun _ _ _ _ _ => (pts_one (pt_val (pe_g (g_is_open T) hr (pa_cons (pv 2) (pa_cons (pv 1) (pa_cons (pv 3) pa_nil))))))) (fun _ _ _ _ _ => (pv 3)))))))), ?_⟩
  have n8 := ok.le
  refine ⟨_, rfl, c, n, par, rfl, hc, ok, fun H1 sm1 => ?_⟩
  refine ⟨_, rfl, _, rfl, c, a, n, par, g, rfl, rfl, sm1 _ _ hc, sm1 _ _ ha, ok, va, fun H2 sm2 => ?_⟩
  have sm2 := Same.tr sm1 sm2
  refine ⟨_, rfl, fun t dx ht hdx hne => ⟨t, dx, c, n, par, rfl, rfl, upd_same, ?_, ok, fun H3 k3 tr _ => ⟨rfl, ?_⟩⟩⟩
  · have := sm2 _ _ hc
    rw [upd_ne (ne_of_none this ht), upd_ne (ne_of_none this hdx)]; exact this
  have sm3 : Same H H3 := fun b o e => by
    have e := sm2 _ _ e
    exact k3 _ _ (ne_of_none e ht) (by rw [upd_ne (ne_of_none e ht), upd_ne (ne_of_none e hdx)]; exact e)
  refine ⟨_, rfl, c, _, rfl, .inr (SqT.of (sm3 _ _ hc)), _, rfl, (by rw [arV_len]; omega), (by rw [arV_len]; omega), fun D hD => ?_⟩
  refine lc_it walk_range (fun i H' => Same H3 H' ∧ H' D = some (.lst (natV (openL par g i)))) ⟨Same.new hD, upd_same⟩ (fun i H' _ h => trivial) ?_ ?_
  · rintro i x H5 H6 hi ⟨sm, h1⟩ ⟨rfl, rfl⟩
    have hin : i < n := by rw [arV_len] at hi; omega
    refine ⟨rfl, _, rfl, _, rfl, _, rfl, t, a, n, par, g, i, rfl, rfl, congrArg V.int (Int.zero_add _), tr.same sm, .inr (sm _ _ (sm3 _ _ ha)), hin, _, rfl, ?_⟩
    have e : openL par g (i + 1) = openL par g i ++ (if openB par g i = true then [i] else []) := by
      unfold openL
      rw [List.range_succ, List.filter_append]
      congr 1
      cases e : openB par g i <;> simp [e]
    cases e2 : openB par g i with
    | false =>
      refine iteF ⟨sm, ?_⟩
      rw [e, e2, if_neg (by decide), List.append_nil]; exact h1
    | true =>
      refine iteT ⟨_, rfl, _, h1, ?_, fun b o e => by rw [upd_ne (ne_of_none e hD)]; exact sm _ _ e, ?_⟩
      · unfold natV openL; rw [List.length_map]; exact small1000 (Nat.le_trans (List.length_filter_le _ _) (by simp; omega))
      · rw [upd_same, e, e2, if_pos rfl]
        unfold natV
        rw [List.map_append, show (fun i : Nat => V.int (0 + (i : Int))) i = V.int (i : Nat) from congrArg V.int (Int.zero_add _)]; rfl
  rintro H5 ⟨sm5, h5⟩
  have e : (((chV n par).length : Nat) : Int).toNat = n := by rw [arV_len]; omega
  rw [e] at h5
  exact q D H5 (Same.tr sm3 sm5) h5
end MV
end

section
set_option Elab.async false
set_option autoImplicit false
set_option linter.all false
set_option maxRecDepth 100000
set_option maxHeartbeats 4000000
namespace MV
open PySem PySem.Spec PyProof.Rows L2 L3 MU PySem.W
variable {P : Program} {w : World} {K : PySem.W.Frag} {mg : Str → Option Value} {base : Heap} {A : Ad}
theorem flat_ints {ns : List Int} : (ns.map V.int).all flatV = true := by
  rw [List.all_eq_true]
  intro x hx
  obtain ⟨o, _, rfl⟩ := List.mem_map.mp hx
  rfl
theorem inV_ints {ns : List Int} {x : Int} : inV (.int x) (ns.map V.int) = decide (x ∈ ns) := by
  unfold inV
  by_cases h : x ∈ ns
  · rw [decide_eq_true h, List.any_eq_true]
    refine ⟨.int x, List.mem_map.mpr ⟨x, h, rfl⟩, ?_⟩
    show decide (x = x) = true
    exact decide_eq_true rfl
  · rw [decide_eq_false h, List.any_eq_false]
    intro y hy
    obtain ⟨z, hz, rfl⟩ := List.mem_map.mp hy
    show ¬ decide (z = x) = true
    intro e
    exact h (of_decide_eq_true e ▸ hz)
/-- a new instance -/
theorem mk1 {H : Hp} {t dx c : Addr} {o o1 o2 : HO} (hc : H c = some o) (ht : H t = none) (hdx : H dx = none) : upd (upd H dx o1) t o2 c = some o := by
  rw [upd_ne (ne_of_none hc ht), upd_ne (ne_of_none hc hdx)]; exact hc
theorem mk2 {H H3 : Hp} {t dx : Addr} {o1 o2 : HO} (ht : H t = none) (hdx : H dx = none) (k : ∀ b o, b ≠ t → upd (upd H dx o1) t o2 b = some o → H3 b = some o) : Same H H3 := fun b o e =>
  k _ _ (ne_of_none e ht) (mk1 e ht hdx)
theorem mk3 {H : Hp} {t dx x : Addr} {o1 o2 : HO} (ht : H t = none) (hdx : H dx = none) (h : upd (upd H dx o1) t o2 x = none) : H x = none := by
  cases e : H x with
  | none => rfl
  | some u => rw [mk1 e ht hdx] at h; cases h
def sp_leave (A : Ad) : List V → Hp → VK → Prop := fun vs H Q => ∃ c a p n par f xs, vs = [.ref c, .ref a, .ref p] ∧ H c = some (.tup (chV n par)) ∧ H a = some (.tup (arV n f)) ∧ H p = some (.tup (xs.map V.int)) ∧ TreeOk n par ∧ Valid n par f ∧ xs.Nodup ∧ (∀ x ∈ xs, Ppl f x) ∧ xs.length ≤ 8 ∧
  ∀ q H' g, Same H H' → H q = none → H' q = some (.tup (arV n g)) → Lvs n par f xs g → Q (.ref q) H'
theorem g_leave (T : Fx K mg A) : Rf P w K mg base 5 "leave" (starSp 2 (sp_leave A)) := by
  refine rf_star (ps := ["chart", "arrangement"]) T.d_leave sc_leave (fun kV doc pm an cdv ct => StX.bind_star2 (B := fun us => bindArgs (PySem.W.fnOf "leave" "leave" (defArgs s_leave) (defBody s_leave) (defScope s_leave) .none kV doc pm an cdv ct) ⟨us, []⟩) (p1 := "chart") (p2 := "arrangement") (pv := "people") (fun _ _ => rfl) (fun _ _ _ _ => rfl)) ?_
  rintro vs f cdv A' outer s E H Q hr ⟨c, a, p, n, par, g, xs, rfl, hc, ha, hp, ok, va, nd, hx, hl, q⟩
  refine ⟨_, (pss_cons (ps_expr (pe_g (g_require_chart T) hr (pa_cons (pv 0) pa_nil)))
      (pss_cons (ps_expr (pe_g (g_require_arrangement T) hr (pa_cons (pv 0) (pa_cons (pv 1) pa_nil))))
      (pss_cons (ps_set (i := 3) sc_leave.nd rfl (by first | exact Or.inl rfl | exact Or.inr rfl) (pe_lst pa_nil))
      (pss_cons (ps_for PassesOwn.never rfl (pi_tup (pv 2)) (pg_name (i := 4) sc_leave.nd rfl (by first | exact Or.inl rfl | exact Or.inr rfl))
      (pss_cons (ps_expr (pe_g (g_require_holder T) hr (pa_cons (pv 1) (pa_cons (pv 4) pa_nil))))
      (pss_cons (ps_if (pt_cmpR op_in_seq (pv 4) (pv 3) (by rfl)) pss_never pss_nil)
      (pss_one (ps_expr (pe_bm PySem.F.plainAttrs_list PySem.F.slot_list_append PySem.F.type_list_append mt_append (pv 3) (pa_cons (pv 4) pa_nil)))))))
      (pss_cons (ps_set (i := 5) sc_leave.nd rfl (by first | exact Or.inl rfl | exact Or.inr rfl) (pe_mk (g_Tree_init T) hr (pa_cons (pv 0) pa_nil)))
      (pss_cons (ps_set (i := 6) sc_leave.nd rfl (by first | exact Or.inl rfl | exact Or.inr rfl) (pe_callTy call_list_of (by rfl) T.b_list (by decide +kernel) (pa_cons (pv 1) pa_nil)))
      (pss_cons (ps_for PassesOwn.never rfl (pi_tup (pv 2)) (pg_name (i := 4) sc_leave.nd rfl (by first | exact Or.inl rfl | exact Or.inr rfl))
      (pss_one (ps_expr (pe_g (g_leave_one T) hr (pa_cons (pv 5) (pa_cons (pv 6) (pa_cons (pv 4) pa_nil)))))))
      (pss_one (ps_ret (pe_callTy call_tuple_of (by rfl) T.b_tuple (by decide +kernel) (pa_cons (pv 6) pa_nil))))))))))), ?_⟩
  have n8 := ok.le
  refine ⟨_, rfl, c, n, par, rfl, hc, ok, fun H1 sm1 => ?_⟩
  refine ⟨_, rfl, _, rfl, c, a, n, par, g, rfl, rfl, sm1 _ _ hc, sm1 _ _ ha, ok, va, fun H2 sm2 => ?_⟩
  have sm2 := Same.tr sm1 sm2
  refine ⟨Nat.zero_le _, fun l hl0 => ?_⟩
  have sm3 := Same.tr sm2 (Same.new (o := .lst []) hl0)
  have hll : H l = none := sm2.free hl0
  refine ⟨_, rfl, p, rfl, ⟨_, SqT.of (sm3 _ _ hp)⟩, ?_⟩
  refine for_it walk_tup (fun i σ H' => (∃ u t r, σ = [some (.ref c), some (.ref a), some (.ref p), some (.ref l), u, t, r]) ∧ Same H H' ∧ H' l = some (.lst ((xs.take i).map V.int)))
    ⟨⟨_, _, _, rfl⟩, sm3, upd_same⟩ (fun i σ H' _ h => SqT.of (h.2.1 _ _ hp)) ?_ ?_
  · rintro i x σ H3 H4 hi ⟨⟨u, t, r, rfl⟩, sm, h1⟩ ⟨rfl, e⟩
    rw [List.getElem?_map] at e
    obtain ⟨x, hxi, rfl⟩ := Option.map_eq_some_iff.mp e
    have hxm := List.mem_of_getElem? hxi
    obtain ⟨k, hk⟩ := hx x hxm
    refine ⟨_, rfl, _, rfl, a, n, g, x, rfl, rfl, sm _ _ ha, va.nn _ _ hk, ⟨k, va.lt hk, hk⟩, ?_⟩
    refine ⟨_, rfl, _, rfl, l, _, rfl, .inl (SqL.of h1), rfl, flat_ints, _, rfl, ?_⟩
    have nx : x ∉ xs.take i := by
      intro hm
      have s : xs.take (i + 1) = xs.take i ++ [x] := by rw [List.take_add_one, hxi]; rfl
      have := List.Nodup.sublist (List.take_sublist (i + 1) _) nd
      rw [s, List.nodup_append] at this
      exact this.2.2 x hm x (by simp) rfl
    refine ifF ((inV_ints (ns := xs.take i)).trans (decide_eq_false nx)) ?_
    have il : i < xs.length := (List.getElem?_eq_some_iff.mp hxi).1
    refine ⟨_, rfl, .inl ⟨rfl, _, SqL.of h1⟩, _, rfl, l, _, _, rfl, rfl, h1, ?_, ?_⟩
    · rw [List.length_map, List.length_take]; exact small1000 (by omega)
    · refine ⟨⟨_, _, _, rfl⟩, fun b o e => by rw [upd_ne (ne_of_none e hll)]; exact sm _ _ e, ?_⟩
      rw [upd_same, List.take_add_one, hxi, List.map_append]; rfl
  · rintro σ H3 ⟨⟨u, t0, r0, rfl⟩, sm3, h1⟩
    refine ⟨_, rfl, fun t dx ht hdx hne => ⟨t, dx, c, n, par, rfl, rfl, upd_same, mk1 (sm3 _ _ hc) ht hdx, ok, fun H4 k4 tr _ => ⟨rfl, ?_⟩⟩⟩
    have sm4 := Same.tr sm3 (mk2 ht hdx k4)
    refine ⟨_, rfl, a, _, rfl, .inr (SqT.of (sm4 _ _ ha)), fun r hr0 => ?_⟩
    have rw0 : Rw A (upd H4 r (.lst (arV n g))) t r n par g := ⟨⟨H4, tr, Same.new hr0, hr0⟩, upd_same⟩
    have hrH : H r = none := sm4.free hr0
    have sm5 := Same.tr sm4 (Same.new (o := .lst (arV n g)) hr0)
    refine ⟨_, rfl, p, rfl, ⟨_, SqT.of (sm5 _ _ hp)⟩, ?_⟩
    refine for_it walk_tup (fun i σ H' => (∃ u, σ = [some (.ref c), some (.ref a), some (.ref p), some (.ref l), u, some (.ref t), some (.ref r)]) ∧ Same H H' ∧ ∃ g', Rw A H' t r n par g' ∧ Lvs n par g (xs.take i) g')
      ⟨⟨_, rfl⟩, sm5, g, rw0, Lvs.nil⟩ (fun i σ H' _ h => SqT.of (h.2.1 _ _ hp)) ?_ ?_
    · rintro i x σ H5 H6 hi ⟨⟨u, rfl⟩, sm, g', w1, lv⟩ ⟨rfl, e⟩
      rw [List.getElem?_map] at e
      obtain ⟨x, hxi, rfl⟩ := Option.map_eq_some_iff.mp e
      have hxm := List.mem_of_getElem? hxi
      have nx : x ∉ xs.take i := by
        intro hm
        have s : xs.take (i + 1) = xs.take i ++ [x] := by rw [List.take_add_one, hxi]; rfl
        have := List.Nodup.sublist (List.take_sublist (i + 1) _) nd
        rw [s, List.nodup_append] at this
        exact this.2.2 x hm x (by simp) rfl
      obtain ⟨v1, p1, _⟩ := lv.val va
      obtain ⟨k, hk⟩ := (p1 x).mpr ⟨hx x hxm, nx⟩
      refine ⟨_, rfl, _, rfl, _, rfl, t, r, n, par, g', x, k, rfl, rfl, rfl, w1, v1, hk, fun H7 e g2 l2 kp e2 => ?_⟩
      refine ⟨⟨_, rfl⟩, fun b o eb => kp _ _ (ne_of_none eb hrH) (sm _ _ eb), g2, w1.next kp e2, ?_⟩
      rw [List.take_add_one, hxi]
      exact lv.snoc ⟨k, hk⟩ l2
    · rintro σ H5 ⟨⟨u, rfl⟩, sm, g', w1, lv⟩
      rw [List.length_map, List.take_length] at lv
      refine ⟨_, rfl, r, _, rfl, .inl ⟨SqL.of w1.at_, fun z hz => ?_⟩⟩
      exact q z _ g' (Same.tr sm (Same.new hz)) (sm.free hz) upd_same lv
/-! ### join -/
theorem openB_iff {n : Nat} {par : Nat → Nat} {f : Nat → Option Int} {e : Nat} (he : e < n) : openB par f e = true ↔ Open n par f e := by
  unfold openB Open
  constructor
  · intro h
    cases e1 : f e with
    | some x => rw [e1] at h; cases h
    | none =>
      rw [e1] at h
      by_cases c : e = 0
      · exact ⟨he, rfl, .inl c⟩
      · have e3 : (e == 0) = false := by simpa using c
        rw [e3] at h
        cases e4 : f (par e) with
        | none => rw [e4] at h; cases h
        | some z => exact ⟨he, rfl, .inr ⟨z, rfl⟩⟩
  · rintro ⟨_, h1, h2⟩
    rw [h1]
    rcases h2 with h2 | ⟨y, h2⟩
    · subst h2; rfl
    · rw [h2]; simp
theorem open_anc {n : Nat} {par : Nat → Nat} {f : Nat → Option Int} {e : Nat} (va : Valid n par f) (O : Open n par f e) : ∀ k, Above par k e → k ≠ e → ∃ y, f k = some y := fun k a b => by
  obtain ⟨_, _, hpe⟩ := O
  obtain ⟨e0, a'⟩ := a.up b
  rcases hpe with hpe | ⟨w, hw⟩
  · omega
  · obtain ⟨u, hu, _⟩ := va.anc a' hw
    exact ⟨u, hu⟩
abbrev sp_join (A : Ad) : Sp := sp4 fun x y z u H Q => ∃ c a n par f v e, x = .ref c ∧ y = .ref a ∧ z = .int v ∧ u = .int (e : Nat) ∧ H c = some (.tup (chV n par)) ∧ H a = some (.tup (arV n f)) ∧ TreeOk n par ∧ Valid n par f ∧ 0 ≤ v ∧ ¬ Ppl f v ∧ Open n par f e ∧
  ∀ q H' g, Same H H' → H q = none → H' q = some (.tup (arV n g)) → JnE par f v e g → Q (.ref q) H'
theorem g_join (T : Fx K mg A) : Gf P w K mg base 5 "join" ["chart", "arrangement", "person", "post"] (sp_join A) := by
  refine gf4 T.d_join sc_join (fun _ _ _ _ _ _ us hl => match us, hl with | [_, _, _, _], _ => rfl) ?_
  rintro v1 v2 v3 v4 f cdv A' outer s E H Q hr ⟨c, a, n, par, g, v, e, rfl, rfl, rfl, rfl, hc, ha, ok, va, v0, nv, op, q⟩
  refine ⟨_, (pss_cons (ps_expr (pe_g (g_require_chart T) hr (pa_cons (pv 0) pa_nil)))
      (pss_cons (ps_expr (pe_g (g_require_arrangement T) hr (pa_cons (pv 0) (pa_cons (pv 1) pa_nil))))
      (pss_cons (ps_if (PW.pt (pw_or (pt_not (pt_val (pe_g (g_is_person T) hr (pa_cons (pv 2) pa_nil)))) (pw_or1 (pt_cmpR op_in_seq (pv 2) (pv 1) (by rfl))))) pss_never pss_nil)
      (pss_cons (ps_set (i := 4) sc_join.nd rfl (by first | exact Or.inl rfl | exact Or.inr rfl) (pe_mk (g_Tree_init T) hr (pa_cons (pv 0) pa_nil)))
      (pss_cons (ps_if (PW.pt (pw_or (pt_not (pt_val (pe_g (g_is_whole T) hr (pa_cons (pv 3) pa_nil)))) (pw_or (pt_cmpR op_ge (pv 3) (pe_callB call_len_seq (by rfl) T.b_len (by decide +kernel) (pa_cons (pv 0) pa_nil)) (nomark _)) (pw_or1 (pt_not (pt_val (pe_g (g_is_open T) hr (pa_cons (pv 4) (pa_cons (pv 1) (pa_cons (pv 3) pa_nil)))))))))) pss_never pss_nil)
      (pss_cons (ps_set (i := 5) sc_join.nd rfl (by first | exact Or.inl rfl | exact Or.inr rfl) (pe_callTy call_list_of (by rfl) T.b_list (by decide +kernel) (pa_cons (pv 1) pa_nil)))
      (pss_cons (ps_expr (pe_g (g_join_one T) hr (pa_cons (pv 4) (pa_cons (pv 5) (pa_cons (pv 2) (pa_cons (pv 3) pa_nil))))))
      (pss_one (ps_ret (pe_callTy call_tuple_of (by rfl) T.b_tuple (by decide +kernel) (pa_cons (pv 5) pa_nil))))))))))), ?_⟩
  have n8 := ok.le
  refine ⟨_, rfl, c, n, par, rfl, hc, ok, fun H1 sm1 => ?_⟩
  refine ⟨_, rfl, _, rfl, c, a, n, par, g, rfl, rfl, sm1 _ _ hc, sm1 _ _ ha, ok, va, fun H2 sm2 => ?_⟩
  have sm2 := Same.tr sm1 sm2
  refine ⟨_, rfl, v, rfl, _, rfl, ?_⟩
  refine ifFn (decide_eq_true v0) ?_
  refine ⟨_, rfl, _, rfl, a, _, rfl, .inr (SqT.of (sm2 _ _ ha)), rfl, flat_arV, _, rfl, ?_⟩
  refine ifF (inV_not fun k hk => nv ⟨k, hk⟩) ?_
  refine ⟨_, rfl, fun t dx ht hdx hne => ⟨t, dx, c, n, par, rfl, rfl, upd_same, mk1 (sm2 _ _ hc) ht hdx, ok, fun H4 k4 tr _ => ⟨rfl, ?_⟩⟩⟩
  have sm4 := Same.tr sm2 (mk2 ht hdx k4)
  refine ⟨_, rfl, _, rfl, _, rfl, ?_⟩
  refine ifFn (decide_eq_true (by omega)) ?_
  refine ⟨_, rfl, _, rfl, c, _, rfl, .inr (SqT.of (sm4 _ _ hc)), _, _, rfl, rfl, _, rfl, ?_⟩
  refine ifF (decide_eq_false (by rw [arV_len]; have := op.1; omega)) ?_
  refine ⟨_, rfl, _, rfl, _, rfl, t, a, n, par, g, e, rfl, rfl, rfl, tr, .inr (sm4 _ _ ha), op.1, _, rfl, ?_⟩
  refine ifFn ((openB_iff op.1).mpr op) ?_
  refine ⟨_, rfl, a, _, rfl, .inr (SqT.of (sm4 _ _ ha)), fun r hr0 => ?_⟩
  have rw0 : Rw A (upd H4 r (.lst (arV n g))) t r n par g := ⟨⟨H4, tr, Same.new hr0, hr0⟩, upd_same⟩
  have hrH : H r = none := sm4.free hr0
  have sm5 := Same.tr sm4 (Same.new (o := .lst (arV n g)) hr0)
  refine ⟨_, rfl, _, rfl, _, rfl, _, rfl, t, r, n, par, g, v, e, rfl, rfl, rfl, rfl, rw0, op.1, open_anc va op, fun H5 g' J kp e5 => ?_⟩
  have sm6 : Same H H5 := fun b o eb => kp _ _ (ne_of_none eb hrH) (sm5 _ _ eb)
  refine ⟨_, rfl, r, _, rfl, .inl ⟨SqL.of e5, fun z hz => ?_⟩⟩
  exact q z _ g' (Same.tr sm6 (Same.new hz)) (sm6.free hz) upd_same J
/-! ### steps -/
def StAt (H : Hp) (s : Addr) : Stp → Prop
  | .lv x => H s = some (.tup [.str "leave", .int x])
  | .jn x e => H s = some (.tup [.str "join", .int x, .int (e : Nat)])
theorem StAt.keep {H H' : Hp} {s : Addr} {st : Stp} (h : StAt H s st) (k : ∀ xs, H s = some (.tup xs) → H' s = some (.tup xs)) : StAt H' s st := by
  cases st with
  | lv x => exact k _ h
  | jn x e => exact k _ h
theorem StAt.same {H H' : Hp} {s : Addr} {st : Stp} (h : StAt H s st) (k : Same H H') : StAt H' s st := h.keep fun _ e => k _ _ e
abbrev sp_is_step : Sp := sp2 fun x y H Q => ∃ c s n par st, x = .ref c ∧ y = .ref s ∧ H c = some (.tup (chV n par)) ∧ StAt H s st ∧ StOk n st ∧ ∀ H', Same H H' → Q (.bl true) H'
theorem g_is_step (T : Fx K mg A) : Gf P w K mg base 3 "is_step" ["chart", "value"] (sp_is_step) := by
  refine gf2 T.d_is_step sc_is_step (fun _ _ _ _ _ _ us hl => match us, hl with | [_, _], _ => rfl) ?_
  rintro v1 v2 f cdv A' outer s E H Q hr ⟨c, p, n, par, st, rfl, rfl, hc, hs, ho, q⟩
  refine ⟨_, (pss_cons (ps_if (PW.pt (pw_or (pt_not (pt_val (pe_callB call_isi (by rfl) T.b_isinstance (by decide +kernel) (pa_cons (pv 1) (pa_cons (pe_bltn (v := .ty "tuple") (u := .type "tuple") (by rfl) T.b_tuple (by decide +kernel) rfl) pa_nil))))) (pw_or (pt_cmpR op_notIn_seq (pe_callB call_len_seq (by rfl) T.b_len (by decide +kernel) (pa_cons (pv 1) pa_nil)) (pe_tup (pa_cons pe_int (pa_cons pe_int pa_nil))) (by rfl)) (pw_or1 (pt_not (pt_val (pe_g (g_is_person T) hr (pa_cons (pe_ix ix_tup (pv 1) pe_int (fun _ _ => rfl)) pa_nil)))))))) (pss_one (ps_ret pe_bl)) pss_nil)
      (pss_cons (ps_if (pt_cmpR op_eq (pe_callB call_len_seq (by rfl) T.b_len (by decide +kernel) (pa_cons (pv 1) pa_nil)) pe_int (nomark _)) (pss_one (ps_ret (pe_cmpR op_eq (pe_ix ix_tup (pv 1) pe_int (fun _ _ => rfl)) pe_str (nomark _)))) pss_nil)
      (pss_one (ps_ret (pe_and (pe_cmpR op_eq (pe_ix ix_tup (pv 1) pe_int (fun _ _ => rfl)) pe_str (nomark _)) (pe_and (pe_g (g_is_whole T) hr (pa_cons (pe_ix ix_tup (pv 1) pe_int (fun _ _ => rfl)) pa_nil)) (pe_one (pe_cmpR op_lt (pe_ix ix_tup (pv 1) pe_int (fun _ _ => rfl)) (pe_callB call_len_seq (by rfl) T.b_len (by decide +kernel) (pa_cons (pv 0) pa_nil)) (nomark _))))))))), ?_⟩
  cases st with
  | lv x =>
    have hs : H p = some (.tup [.str "leave", .int x]) := hs
    have ho : 0 ≤ x := ho
    refine ⟨_, rfl, _, _, _, _, true, rfl, .ty _, .base (.tup hs), kit_ty (by decide +kernel), true, rfl, ?_⟩
    refine ifF rfl ?_
    refine ⟨_, rfl, p, _, rfl, .inr (SqT.of hs), by show 2 ≤ sizeLine; decide, fun z hz => ⟨z, _, rfl, .inr (SqT.of upd_same), rfl, rfl, _, rfl, ?_⟩⟩
    refine ifF rfl ?_
    have sm := Same.new (o := .tup [.int 2, .int 3]) hz
    refine ⟨_, rfl, p, _, _, _, rfl, rfl, SqT.of (sm _ _ hs), rfl, x, rfl, _, rfl, ?_⟩
    refine ifFn (decide_eq_true ho) ?_
    refine ⟨_, rfl, p, _, rfl, .inr (SqT.of (sm _ _ hs)), rfl, _, rfl, ?_⟩
    refine ifT rfl ?_
    exact ⟨_, rfl, p, _, _, _, rfl, rfl, SqT.of (sm _ _ hs), rfl, rfl, q _ sm⟩
  | jn x e =>
    have hs : H p = some (.tup [.str "join", .int x, .int (e : Nat)]) := hs
    obtain ⟨ho, he⟩ := (show 0 ≤ x ∧ e < n from ho)
    refine ⟨_, rfl, _, _, _, _, true, rfl, .ty _, .base (.tup hs), kit_ty (by decide +kernel), true, rfl, ?_⟩
    refine ifF rfl ?_
    refine ⟨_, rfl, p, _, rfl, .inr (SqT.of hs), by show 2 ≤ sizeLine; decide, fun z hz => ⟨z, _, rfl, .inr (SqT.of upd_same), rfl, rfl, _, rfl, ?_⟩⟩
    refine ifF rfl ?_
    have sm := Same.new (o := .tup [.int 2, .int 3]) hz
    refine ⟨_, rfl, p, _, _, _, rfl, rfl, SqT.of (sm _ _ hs), rfl, x, rfl, _, rfl, ?_⟩
    refine ifFn (decide_eq_true ho) ?_
    refine ⟨_, rfl, p, _, rfl, .inr (SqT.of (sm _ _ hs)), rfl, _, rfl, ?_⟩
    refine ifF rfl ?_
    refine ⟨_, rfl, p, _, _, _, rfl, rfl, SqT.of (sm _ _ hs), rfl, rfl, true, rfl, ?_⟩
    refine ⟨_, rfl, p, _, _, _, rfl, rfl, SqT.of (sm _ _ hs), rfl, (e : Int), rfl, _, rfl, ?_⟩
    refine ifT (decide_eq_true (by omega)) ?_
    refine ⟨_, rfl, p, _, _, _, rfl, rfl, SqT.of (sm _ _ hs), rfl, _, rfl, c, _, rfl, .inr (SqT.of (sm _ _ hc)), _, _, rfl, rfl, ?_⟩
    show Q (.bl (decide ((e : Int) < (((chV n par).length : Nat) : Int)))) _
    rw [arV_len, decide_eq_true (by omega)]
    exact q _ sm
end MV
end

section
set_option Elab.async false
set_option autoImplicit false
set_option linter.all false
set_option maxRecDepth 100000
set_option maxHeartbeats 4000000
namespace MV
open PySem PySem.Spec PyProof.Rows L2 L3 MU PySem.W
variable {P : Program} {w : World} {K : PySem.W.Frag} {mg : Str → Option Value} {base : Heap} {A : Ad}
/-- a list of steps -/
structure StL (H : Hp) (l : Addr) (ss : List Stp) : Prop where
  ex : ∃ ps : List Addr, H l = some (.lst (ps.map V.ref)) ∧ Paired (StAt H) ps ss
theorem StL.keep {H H' : Hp} {l : Addr} {ss : List Stp} (h : StL H l ss) (k1 : ∀ xs, H l = some (.lst xs) → H' l = some (.lst xs)) (k2 : ∀ p xs, H p = some (.tup xs) → H' p = some (.tup xs)) : StL H' l ss := by
  obtain ⟨ps, e, p⟩ := h
  exact ⟨ps, k1 _ e, paired_up p fun a b h => h.keep fun xs e => k2 _ _ e⟩
theorem StL.same {H H' : Hp} {l : Addr} {ss : List Stp} (h : StL H l ss) (k : Same H H') : StL H' l ss := h.keep (fun _ e => k _ _ e) fun _ _ e => k _ _ e
theorem StL.kp {H H' : Hp} {l r : Addr} {ss : List Stp} {xs : List V} (h : StL H l ss) (hr : H r = some (.lst xs)) (n : l ≠ r) (k : Kp r H H') : StL H' l ss :=
  h.keep (fun _ e => k _ _ n e) fun _ _ e => k _ _ (ne_of e hr (by intro z; cases z)) e
theorem paired_len {α β : Type} {F : α → β → Prop} : ∀ {xs : List α} {ys : List β}, Paired F xs ys → xs.length = ys.length
  | _, _, .nil => rfl
  | _, _, .cons _ t => congrArg (· + 1) (paired_len t)
theorem paired_get {α β : Type} {F : α → β → Prop} : ∀ {xs : List α} {ys : List β}, Paired F xs ys → ∀ {i : Nat} {x : α}, xs[i]? = some x → ∃ y, ys[i]? = some y ∧ F x y
  | _, _, .nil, _, _, h => by simp at h
  | _, _, .cons r _, 0, _, h => by simp at h; subst h; exact ⟨_, rfl, r⟩
  | _, _, .cons _ t, i + 1, _, h => by
    obtain ⟨x, e, f⟩ := paired_get t (i := i) (by simpa using h)
    exact ⟨x, by simpa using e, f⟩
abbrev sp_plan_fault : Sp := sp2 fun x y H Q => ∃ c l n par ss, x = .ref c ∧ y = .ref l ∧ H c = some (.tup (chV n par)) ∧ StL H l ss ∧ (∀ s ∈ ss, StOk n s) ∧ ∀ H', Same H H' → Q .non H'
theorem g_plan_fault (T : Fx K mg A) : Gf P w K mg base 4 "plan_fault" ["chart", "value"] (sp_plan_fault) := by
  refine gf2 T.d_plan_fault sc_plan_fault (fun _ _ _ _ _ _ us hl => match us, hl with | [_, _], _ => rfl) ?_
  rintro v1 v2 f cdv A' outer s E H Q hr ⟨c, l, n, par, ss, rfl, rfl, hc, hl, ho, q⟩
  refine ⟨_, (pss_cons (ps_if (pt_not (pt_val (pe_callB call_isi (by rfl) T.b_isinstance (by decide +kernel) (pa_cons (pv 1) (pa_cons (pe_bltn (v := .ty "list") (u := .type "list") (by rfl) T.b_list (by decide +kernel) rfl) pa_nil))))) (pss_one (ps_ret (pe_tup (pa_cons pe_str pa_nil)))) pss_nil)
      (pss_cons (ps_for PassesOwn.never rfl (pi_enum (by rfl) T.b_enumerate (pa_cons (pv 1) pa_nil)) (pg_tup rfl (pgs_cons (pg_name (i := 2) sc_plan_fault.nd rfl (by first | exact Or.inl rfl | exact Or.inr rfl)) (pgs_cons (pg_name (i := 3) sc_plan_fault.nd rfl (by first | exact Or.inl rfl | exact Or.inr rfl)) pgs_nil)))
      (pss_one (ps_if (pt_not (pt_val (pe_g (g_is_step T) hr (pa_cons (pv 0) (pa_cons (pv 3) pa_nil))))) (pss_one (ps_ret (pe_tup (pa_cons pe_str (pa_cons (pv 2) pa_nil))))) pss_nil)))
      (pss_one (ps_ret pe_non)))), ?_⟩
  obtain ⟨ps, el, pr⟩ := hl
  refine ⟨_, rfl, _, _, _, _, true, rfl, .ty _, .base (.lst el), kit_ty (by decide +kernel), true, rfl, ?_⟩
  refine ifF rfl ?_
  refine ⟨_, rfl, l, _, rfl, SqL.of el, ?_⟩
  refine for_it walk_enum (fun i σ H' => (∃ u1 u2, σ = [some (.ref c), some (.ref l), u1, u2]) ∧ Same H H') ⟨⟨_, _, rfl⟩, Same.refl'⟩ (fun i σ H' _ h => SqL.of (h.2 _ _ el)) ?_ ?_
  · rintro i x σ H1 H2 hi ⟨⟨u1, u2, rfl⟩, sm⟩ ⟨T1, x1, y1, rfl, hT, rfl, e1, e2⟩
    cases e1
    have e2 : (ps.map V.ref)[i]? = some y1 := e2
    rw [List.getElem?_map] at e2
    obtain ⟨p, hp, rfl⟩ := Option.map_eq_some_iff.mp e2
    obtain ⟨st, hst, sa⟩ := paired_get pr hp
    refine gpair upd_same ?_
    have sm2 := Same.tr sm (Same.new (o := .tup [.int (i : Nat), .ref p]) hT)
    refine ⟨_, rfl, _, rfl, c, p, n, par, st, rfl, rfl, sm2 _ _ hc, sa.same sm2, ho _ (List.mem_of_getElem? hst), fun H3 sm3 => ⟨_, rfl, ?_⟩⟩
    exact iteF ⟨⟨_, _, rfl⟩, Same.tr sm2 sm3⟩
  · rintro σ H1 ⟨⟨u1, u2, rfl⟩, sm⟩
    exact q _ sm
/-! ### step_possible, make_step -/
abbrev sp_step_possible (A : Ad) : Sp := sp3 fun x y z H Q => ∃ t r p n par f st g, x = .ref t ∧ y = .ref r ∧ z = .ref p ∧ Rw A H t r n par f ∧ Valid n par f ∧ StAt H p st ∧ PStep n par f st g ∧ Q (.bl true) H
theorem g_step_possible (T : Fx K mg A) : Gf P w K mg base 2 "step_possible" ["tree", "rows", "step"] (sp_step_possible A) := by
  refine gf3 T.d_step_possible sc_step_possible (fun _ _ _ _ _ _ us hl => match us, hl with | [_, _, _], _ => rfl) ?_
  rintro v1 v2 v3 f cdv A' outer s E H Q hr ⟨t, r, p, n, par, g, st, g', rfl, rfl, rfl, rw0, va, sa, ps, q⟩
  refine ⟨_, (pss_one (ps_match (i := 3) (i' := 3) (j := 4) rfl sc_step_possible.nd (pv 2) rfl (by first | exact Or.inl rfl | exact Or.inr rfl) rfl (by first | exact Or.inl rfl | exact Or.inr rfl) rfl (by first | exact Or.inl rfl | exact Or.inr rfl)
      (pss_one (ps_ret (pe_cmpR op_in_seq (pv 3) (pv 1) (by rfl))))
      (pss_one (ps_ret (pe_and (pe_cmpR op_notIn_seq (pv 3) (pv 1) (by rfl)) (pe_one (pe_g (g_is_open T) hr (pa_cons (pv 0) (pa_cons (pv 1) (pa_cons (pv 4) pa_nil)))))))))), ?_⟩
  cases st with
  | lv x =>
    obtain ⟨⟨k, hk⟩, _⟩ := ps
    refine ⟨_, rfl, p, rfl, .inl ⟨_, SqT.of sa, ?_⟩⟩
    refine ⟨_, rfl, _, rfl, r, _, rfl, .inl (SqL.of rw0.at_), rfl, flat_arV, ?_⟩
    show Q (.bl (inV (.int x) (arV n g))) H
    rw [inV_ar ⟨k, va.lt hk, hk⟩]
    exact q
  | jn x e =>
    obtain ⟨nv, op, _⟩ := ps
    refine ⟨_, rfl, p, rfl, .inr ⟨_, _, _, SqT.of sa, ?_⟩⟩
    refine ⟨_, rfl, _, rfl, r, _, rfl, .inl (SqL.of rw0.at_), rfl, flat_arV, _, rfl, ?_⟩
    refine ifTn (inV_not fun k hk => nv ⟨k, hk⟩) ?_
    refine ⟨_, rfl, _, rfl, _, rfl, t, r, n, par, g, e, rfl, rfl, rfl, rw0.tree, .inl rw0.at_, op.1, ?_⟩
    rw [(openB_iff op.1).mpr op]
    exact q
abbrev sp_make_step (A : Ad) : Sp := sp3 fun x y z H Q => ∃ t r p n par f st g, x = .ref t ∧ y = .ref r ∧ z = .ref p ∧ Rw A H t r n par f ∧ Valid n par f ∧ StAt H p st ∧ PStep n par f st g ∧
  ∀ H', Kp r H H' → H' r = some (.lst (arV n g)) → Q .non H'
theorem g_make_step (T : Fx K mg A) : Gf P w K mg base 3 "make_step" ["tree", "rows", "step"] (sp_make_step A) := by
  refine gf3 T.d_make_step sc_make_step (fun _ _ _ _ _ _ us hl => match us, hl with | [_, _, _], _ => rfl) ?_
  rintro v1 v2 v3 f cdv A' outer s E H Q hr ⟨t, r, p, n, par, g, st, g', rfl, rfl, rfl, rw0, va, sa, ps, q⟩
  refine ⟨_, (pss_one (ps_match (i := 3) (i' := 3) (j := 4) rfl sc_make_step.nd (pv 2) rfl (by first | exact Or.inl rfl | exact Or.inr rfl) rfl (by first | exact Or.inl rfl | exact Or.inr rfl) rfl (by first | exact Or.inl rfl | exact Or.inr rfl)
      (pss_one (ps_expr (pe_g (g_leave_one T) hr (pa_cons (pv 0) (pa_cons (pv 1) (pa_cons (pv 3) pa_nil))))))
      (pss_one (ps_expr (pe_g (g_join_one T) hr (pa_cons (pv 0) (pa_cons (pv 1) (pa_cons (pv 3) (pa_cons (pv 4) pa_nil))))))))), ?_⟩
  have ok := rw0.tree.ok
  cases st with
  | lv x =>
    obtain ⟨⟨k, hk⟩, e, lv⟩ := ps
    refine ⟨_, rfl, p, rfl, .inl ⟨_, SqT.of sa, ?_⟩⟩
    refine ⟨_, rfl, _, rfl, _, rfl, t, r, n, par, g, x, k, rfl, rfl, rfl, rw0, va, hk, fun H1 e1 g1 lv1 kp e2 => ?_⟩
    have := lv1.toLv.uniq ok va lv.toLv
    subst this
    exact q H1 kp e2
  | jn x e =>
    obtain ⟨nv, op, _, J, _⟩ := ps
    refine ⟨_, rfl, p, rfl, .inr ⟨_, _, _, SqT.of sa, ?_⟩⟩
    refine ⟨_, rfl, _, rfl, _, rfl, _, rfl, t, r, n, par, g, x, e, rfl, rfl, rfl, rfl, rw0, op.1, open_anc va op, fun H1 g1 J1 kp e2 => ?_⟩
    have := J1.uniq J
    subst this
    exact q H1 kp e2
/-! ### play_on, play -/
theorem plays_at {n : Nat} {par : Nat → Nat} : ∀ {ss : List Stp} {f h : Arr}, Valid n par f → PlaysTo n par f ss h → ∃ F : Nat → Arr, F 0 = f ∧ F ss.length = h ∧ ∀ i s, ss[i]? = some s → Valid n par (F i) ∧ PStep n par (F i) s (F (i + 1))
  | [], f, h, _, p => ⟨fun _ => f, rfl, p, fun i s e => by simp at e⟩
  | s :: ss, f, h, va, ⟨g, p, r⟩ => by
    obtain ⟨F, h0, h1, h2⟩ := plays_at (p.val va) r
    refine ⟨fun i => match i with | 0 => f | i + 1 => F i, rfl, h1, fun i t e => ?_⟩
    cases i with
    | zero =>
      have : s = t := by simpa using e
      subst this
      exact ⟨va, by show PStep n par f s (F 0); rw [h0]; exact p⟩
    | succ i => exact h2 i t (by simpa using e)
abbrev sp_play_on (A : Ad) : Sp := sp3 fun x y z H Q => ∃ t r l n par f ss g, x = .ref t ∧ y = .ref r ∧ z = .ref l ∧ Rw A H t r n par f ∧ Valid n par f ∧ l ≠ r ∧ StL H l ss ∧ PlaysTo n par f ss g ∧
  ∀ H', Kp r H H' → H' r = some (.lst (arV n g)) → Q .non H'
theorem g_play_on (T : Fx K mg A) : Gf P w K mg base 4 "play_on" ["tree", "rows", "plan"] (sp_play_on A) := by
  refine gf3 T.d_play_on sc_play_on (fun _ _ _ _ _ _ us hl => match us, hl with | [_, _, _], _ => rfl) ?_
  rintro v1 v2 v3 f cdv A' outer s E H Q hr ⟨t, r, l, n, par, g, ss, g', rfl, rfl, rfl, rw0, va, lr, hl, pl, q⟩
  refine ⟨_, (pss_cons (ps_for PassesOwn.never rfl (pi_enum (by rfl) T.b_enumerate (pa_cons (pv 2) pa_nil)) (pg_tup rfl (pgs_cons (pg_name (i := 3) sc_play_on.nd rfl (by first | exact Or.inl rfl | exact Or.inr rfl)) (pgs_cons (pg_name (i := 4) sc_play_on.nd rfl (by first | exact Or.inl rfl | exact Or.inr rfl)) pgs_nil)))
      (pss_cons (ps_if (pt_not (pt_val (pe_g (g_step_possible T) hr (pa_cons (pv 0) (pa_cons (pv 1) (pa_cons (pv 4) pa_nil)))))) (pss_one (ps_ret (pv 3))) pss_nil)
      (pss_one (ps_expr (pe_g (g_make_step T) hr (pa_cons (pv 0) (pa_cons (pv 1) (pa_cons (pv 4) pa_nil))))))))
      (pss_one (ps_ret pe_non))), ?_⟩
  obtain ⟨F, f0, f1, f2⟩ := plays_at va pl
  obtain ⟨ps, el, pr⟩ := hl
  have kl : ∀ {H'}, Kp r H H' → H' l = some (.lst (ps.map V.ref)) := fun {H'} k => k _ _ lr el
  refine ⟨_, rfl, l, _, rfl, SqL.of el, ?_⟩
  refine for_it walk_enum (fun i σ H' => (∃ u1 u2, σ = [some (.ref t), some (.ref r), some (.ref l), u1, u2]) ∧ Kp r H H' ∧ Rw A H' t r n par (F i)) ⟨⟨_, _, rfl⟩, Kp.same Same.refl', by rw [f0]; exact rw0⟩ (fun i σ H' _ h => SqL.of (kl h.2.1)) ?_ ?_
  · rintro i x σ H1 H2 hi ⟨⟨u1, u2, rfl⟩, kp, w1⟩ ⟨T1, x1, y1, rfl, hT, rfl, e1, e2⟩
    cases e1
    have e2 : (ps.map V.ref)[i]? = some y1 := e2
    rw [List.getElem?_map] at e2
    obtain ⟨p, hp, rfl⟩ := Option.map_eq_some_iff.mp e2
    obtain ⟨st, hst, sa⟩ := paired_get pr hp
    obtain ⟨vi, pi⟩ := f2 i st hst
    refine gpair upd_same ?_
    have sm2 : Same H1 (upd H1 T1 (.tup [.int (i : Nat), .ref p])) := Same.new hT
    have w2 := w1.next (Kp.same sm2) (sm2 _ _ w1.at_)
    have kp2 := Kp.tr kp (Kp.same sm2)
    have sa2 : StAt (upd H1 T1 (.tup [.int (i : Nat), .ref p])) p st := sa.keep fun xs e => kp2 _ _ (ne_of e rw0.at_ (by intro z; cases z)) e
    refine ⟨_, rfl, _, rfl, _, rfl, t, r, p, n, par, F i, st, F (i + 1), rfl, rfl, rfl, w2, vi, sa2, pi, _, rfl, ?_⟩
    refine iteF ?_
    refine ⟨_, rfl, _, rfl, _, rfl, t, r, p, n, par, F i, st, F (i + 1), rfl, rfl, rfl, w2, vi, sa2, pi, fun H3 k3 e3 => ?_⟩
    exact ⟨⟨_, _, rfl⟩, Kp.tr kp2 k3, w2.next k3 e3⟩
  · rintro σ H1 ⟨⟨u1, u2, rfl⟩, kp, w1⟩
    rw [List.length_map, paired_len pr, f1] at w1
    exact q _ kp w1.at_
abbrev sp_play (A : Ad) : Sp := sp3 fun x y z H Q => ∃ c a l n par f ss g, x = .ref c ∧ y = .ref a ∧ z = .ref l ∧ H c = some (.tup (chV n par)) ∧ H a = some (.tup (arV n f)) ∧ TreeOk n par ∧ Valid n par f ∧ StL H l ss ∧ PlaysTo n par f ss g ∧
  ∀ q H', Same H H' → H q = none → H' q = some (.tup (arV n g)) → Q (.ref q) H'
theorem g_play (T : Fx K mg A) : Gf P w K mg base 5 "play" ["chart", "arrangement", "plan"] (sp_play A) := by
  refine gf3 T.d_play sc_play (fun _ _ _ _ _ _ us hl => match us, hl with | [_, _, _], _ => rfl) ?_
  rintro v1 v2 v3 f cdv A' outer s E H Q hr ⟨c, a, l, n, par, g, ss, g', rfl, rfl, rfl, hc, ha, ok, va, hl, pl, q⟩
  refine ⟨_, (pss_cons (ps_expr (pe_g (g_require_chart T) hr (pa_cons (pv 0) pa_nil)))
      (pss_cons (ps_expr (pe_g (g_require_arrangement T) hr (pa_cons (pv 0) (pa_cons (pv 1) pa_nil))))
      (pss_cons (ps_set (i := 3) sc_play.nd rfl (by first | exact Or.inl rfl | exact Or.inr rfl) (pe_g (g_plan_fault T) hr (pa_cons (pv 0) (pa_cons (pv 2) pa_nil))))
      (pss_cons (ps_if (pt_cmpR op_notN (pv 3) pe_non (nomark _)) pss_never pss_nil)
      (pss_cons (ps_set (i := 4) sc_play.nd rfl (by first | exact Or.inl rfl | exact Or.inr rfl) (pe_callTy call_list_of (by rfl) T.b_list (by decide +kernel) (pa_cons (pv 1) pa_nil)))
      (pss_cons (ps_set (i := 5) sc_play.nd rfl (by first | exact Or.inl rfl | exact Or.inr rfl) (pe_g (g_play_on T) hr (pa_cons (pe_mk (g_Tree_init T) hr (pa_cons (pv 0) pa_nil)) (pa_cons (pv 4) (pa_cons (pv 2) pa_nil)))))
      (pss_cons (ps_if (pt_cmpR op_notN (pv 5) pe_non (nomark _)) pss_never pss_nil)
      (pss_one (ps_ret (pe_callTy call_tuple_of (by rfl) T.b_tuple (by decide +kernel) (pa_cons (pv 4) pa_nil))))))))))), ?_⟩
  refine ⟨_, rfl, c, n, par, rfl, hc, ok, fun H1 sm1 => ?_⟩
  refine ⟨_, rfl, _, rfl, c, a, n, par, g, rfl, rfl, sm1 _ _ hc, sm1 _ _ ha, ok, va, fun H2 sm2 => ?_⟩
  have sm2 := Same.tr sm1 sm2
  refine ⟨_, rfl, _, rfl, c, l, n, par, ss, rfl, rfl, sm2 _ _ hc, hl.same sm2, pl.ok va, fun H3 sm3 => ?_⟩
  have sm3 := Same.tr sm2 sm3
  refine ⟨_, rfl, rfl, _, rfl, iteF ?_⟩
  refine ⟨_, rfl, a, _, rfl, .inr (SqT.of (sm3 _ _ ha)), fun r hr0 => ?_⟩
  have sm4 := Same.tr sm3 (Same.new (o := .lst (arV n g)) hr0)
  have hrH : H r = none := sm3.free hr0
  refine ⟨_, rfl, fun t dx ht hdx hne => ⟨t, dx, c, n, par, rfl, rfl, upd_same, mk1 (sm4 _ _ hc) ht hdx, ok, fun H5 k5 _ ⟨HT, tr, shT, hT⟩ => ⟨rfl, ?_⟩⟩⟩
  have sm5' := mk2 ht hdx k5
  have sm5 := Same.tr sm4 sm5'
  obtain ⟨ps, el, pr⟩ := id hl
  have lr : l ≠ r := ne_of_none el hrH
  have er := sm5' _ _ (upd_same (H := H3) (a := r) (o := .lst (arV n g)))
  have trn : t ≠ r := fun z => by subst z; rw [upd_same] at ht; cases ht
  have hTr : HT r = none := by
    cases e : HT r with
    | none => rfl
    | some o =>
      rcases hT r o e with z | z | z
      · exact absurd z.symm trn
      · rw [z, hc] at hrH; cases hrH
      · rw [mk1 upd_same ht hdx] at z; cases z
  have rw0 : Rw A H5 t r n par g := ⟨⟨HT, tr, shT, hTr⟩, er⟩
  refine ⟨_, rfl, _, rfl, t, r, l, n, par, g, ss, g', rfl, rfl, rfl, rw0, va, lr, hl.same sm5, pl, fun H6 k6 e6 => ?_⟩
  refine ⟨_, rfl, rfl, _, rfl, iteF ?_⟩
  have sm6 : Same H H6 := fun b o eb => k6 _ _ (ne_of_none eb hrH) (sm5 _ _ eb)
  refine ⟨_, rfl, r, _, rfl, .inl ⟨SqL.of e6, fun z hz => ?_⟩⟩
  exact q z _ (Same.tr sm6 (Same.new hz)) (sm6.free hz) upd_same
end MV
end

section
set_option Elab.async false
set_option autoImplicit false
set_option linter.all false
set_option maxRecDepth 100000
set_option maxHeartbeats 4000000
namespace MV
open PySem PySem.Spec PyProof.Rows L2 L3 MU PySem.W
variable {P : Program} {w : World} {K : PySem.W.Frag} {mg : Str → Option Value} {base : Heap} {A : Ad}
/-! ### [[] for x in t] -/
theorem lc_lists {K : PySem.W.Frag} {a : Addr} {xs : List V} {i0 : Nat} {vs : List Nat} {σ : L2.St} {H0 : Hp} {D : Addr} {Qd : Hp → Prop} (hx : xs.length ≤ 1000) (ha : H0 a = some (.tup xs)) (hD : H0 D = none) (hw : ∀ (v : V), wipe ((wipe σ vs).set i0 (some v)) vs = wipe σ vs)
    (hd : ∀ H1 (cs : List Addr), cs.length = xs.length → H1 D = some (.lst (cs.map V.ref)) → (∀ c ∈ cs, H1 c = some (.lst []) ∧ c ≠ D ∧ H0 c = none) → (∀ (k l : Nat) (c : Addr), cs[k]? = some c → cs[l]? = some c → k = l) → Same H0 H1 → Qd H1) :
    ∃ W : Nat → Nat → Hp → Prop, (∃ m, W 0 m (upd H0 D (.lst []))) ∧ ∀ i m H, W i m H →
      ((Itt K a).stop i H ∧ Qd H) ∨ ((Itt K a).go i H ∧ ∃ Nx : Hp → Prop, (∀ H', Nx H' → ∃ m', m' < m ∧ W (i + 1) m' H') ∧ ∀ x H', (Itt K a).yld i H x H' → (gName i0) x (wipe σ vs) H' fun σ2 H2 => wipe σ2 vs = wipe σ vs ∧ tYes σ2 H2 fun b H3 =>
        if b = true then (tLst tNil) σ2 H3 fun y H4 => ∃ acc, H4 D = some (.lst acc) ∧ acc.length < sizeLine ∧ Nx (upd H4 D (.lst (acc ++ [y]))) else Nx H3) := by
  refine lc_it (walk_tup (xs := xs)) (fun i H' => ∃ cs : List Addr, cs.length = i ∧ H' D = some (.lst (cs.map V.ref)) ∧ (∀ c ∈ cs, H' c = some (.lst []) ∧ c ≠ D ∧ H0 c = none) ∧ (∀ k l c, cs[k]? = some c → cs[l]? = some c → k = l) ∧ Same H0 H')
    ⟨[], rfl, upd_same, (fun c hc => nomatch hc), (fun k l c (e : ([] : List Addr)[k]? = some c) _ => by rw [List.getElem?_nil] at e; cases e), Same.new hD⟩ ?_ ?_ ?_
  · rintro i H' hi ⟨cs, _, _, _, _, hs⟩
    exact SqT.of (hs _ _ ha)
  · rintro i x H1 H2 hi ⟨cs, hl, h1, h2, h3, hs⟩ ⟨rfl, e⟩
    refine ⟨hw x, Nat.zero_le _, fun p hp => ⟨_, (by rw [upd_ne (ne_of_none h1 hp)]; exact h1), ?_, ?_⟩⟩
    · rw [List.length_map, hl]; exact small1000 (by omega)
    · refine ⟨cs ++ [p], by rw [List.length_append, hl]; rfl, by rw [upd_same, List.map_append]; rfl, ?_, ?_, ?_⟩
      · intro c hc
        rcases List.mem_append.mp hc with hc | hc
        · obtain ⟨a1, a2, a3⟩ := h2 c hc
          exact ⟨by rw [upd_ne a2, upd_ne (ne_of_none a1 hp)]; exact a1, a2, a3⟩
        · rw [List.mem_singleton] at hc
          subst hc
          have hpD : c ≠ D := (ne_of_none h1 hp).symm
          exact ⟨by rw [upd_ne hpD, upd_same], hpD, hs.free hp⟩
      · intro k l c e1 e2
        have key : ∀ {k : Nat}, (cs ++ [p])[k]? = some c → (k < cs.length ∧ cs[k]? = some c) ∨ (k = cs.length ∧ c = p) := fun {k} e => by
          rw [List.getElem?_append] at e
          split at e
          · rename_i l; exact .inl ⟨l, e⟩
          · rename_i l
            rcases Nat.lt_or_ge (k - cs.length) 1 with z | z
            · have z0 : k - cs.length = 0 := by omega
              rw [z0] at e; exact .inr ⟨by omega, (Option.some.inj e).symm⟩
            · rw [List.getElem?_eq_none (by simpa using z)] at e; cases e
        have np : ∀ {k : Nat}, cs[k]? = some p → False := fun {k} e => by
          have := (h2 _ (List.mem_of_getElem? e)).1
          rw [this] at hp; cases hp
        rcases key e1 with ⟨_, a1⟩ | ⟨a1, a2⟩
        · rcases key e2 with ⟨_, b1⟩ | ⟨b1, b2⟩
          · exact h3 k l c a1 b1
          · subst b2; exact (np a1).elim
        · rcases key e2 with ⟨_, b1⟩ | ⟨b1, b2⟩
          · subst a2; exact (np b1).elim
          · omega
      · intro b o e
        rw [upd_ne (ne_of_none e hD), upd_ne (ne_of_none (hs _ _ e) hp)]
        exact hs _ _ e
  · rintro H1 ⟨cs, hl, h1, h2, h3, hs⟩
    exact hd H1 cs hl h1 h2 h3 hs
/-! ### Change -/
abbrev fC (t b a s e r : V) : List (Str × V) := [("tree", t), ("before", b), ("after", a), ("starts", s), ("ends", e), ("reaching", r)]
abbrev fCa (t : V) : List (Str × V) := [("tree", t)]
abbrev fCb (t b : V) : List (Str × V) := [("tree", t), ("before", b)]
abbrev fCc (t b a : V) : List (Str × V) := [("tree", t), ("before", b), ("after", a)]
abbrev fCd (t b a s : V) : List (Str × V) := [("tree", t), ("before", b), ("after", a), ("starts", s)]
abbrev fCe (t b a s e : V) : List (Str × V) := [("tree", t), ("before", b), ("after", a), ("starts", s), ("ends", e)]
theorem fC_1 (t : V) : putF "tree" t [] = fCa t := rfl
theorem fC_2 (t b : V) : putF "before" b (fCa t) = fCb t b := by kernel_rfl
theorem fC_3 (t b a : V) : putF "after" a (fCb t b) = fCc t b a := by kernel_rfl
theorem fC_4 (t b a s : V) : putF "starts" s (fCc t b a) = fCd t b a s := by kernel_rfl
theorem fC_5 (t b a s e : V) : putF "ends" e (fCd t b a s) = fCe t b a s e := by kernel_rfl
theorem fC_6 (t b a s e r : V) : putF "reaching" r (fCe t b a s e) = fC t b a s e r := by kernel_rfl
theorem fC_tree (t b a s e r : V) : (fC t b a s e r).lookup ("tree" : Str) = some t := by kernel_rfl
theorem fC_after (t b a s e r : V) : (fC t b a s e r).lookup ("after" : Str) = some a := by kernel_rfl
theorem fC_starts (t b a s e r : V) : (fC t b a s e r).lookup ("starts" : Str) = some s := by kernel_rfl
theorem fC_ends (t b a s e r : V) : (fC t b a s e r).lookup ("ends" : Str) = some e := by kernel_rfl
theorem fC_reaching (t b a s e r : V) : (fC t b a s e r).lookup ("reaching" : Str) = some r := by kernel_rfl
theorem fC5_starts (t b a s e : V) : (fCe t b a s e).lookup ("starts" : Str) = some s := by kernel_rfl
theorem fC_m1 (t b a s e r : V) : (fC t b a s e r).lookup ("first_after" : Str) = none := by kernel_rfl
theorem fC_m2 (t b a s e r : V) : (fC t b a s e r).lookup ("staying" : Str) = none := by kernel_rfl
theorem fC_m3 (t b a s e r : V) : (fC t b a s e r).lookup ("leaving_steps" : Str) = none := by kernel_rfl
theorem fC_m4 (t b a s e r : V) : (fC t b a s e r).lookup ("joining_steps" : Str) = none := by kernel_rfl
theorem fC_m5 (t b a s e r : V) : (fC t b a s e r).lookup ("plan" : Str) = none := by kernel_rfl
structure ChangeAt (A : Ad) (H : Hp) (p : Addr) (n : Nat) (par : Nat → Nat) (f g : Nat → Option Int) (R : Nat → List Int) : Prop where
  ex : ∃ dx t b a s e r, ∃ rs : List Addr, H p = some (.ins A.C dx (fC (.ref t) (.ref b) (.ref a) (.ref s) (.ref e) (.ref r))) ∧ TreeAt A H t n par ∧ H b = some (.tup (arV n f)) ∧ H a = some (.tup (arV n g)) ∧ H s = some (.dK (pk f n)) ∧ H e = some (.dK (pk g n)) ∧
    rs.length = n ∧ H r = some (.lst (rs.map V.ref)) ∧ ∀ k c, rs[k]? = some c → H c = some (.lst ((R k).map V.int))
  rin : ∀ k z, z ∈ R k → InR par f g z k
theorem ChangeAt.same {A : Ad} {H H' : Hp} {p : Addr} {n : Nat} {par : Nat → Nat} {f g : Nat → Option Int} {R : Nat → List Int} (h : ChangeAt A H p n par f g R) (s : Same H H') : ChangeAt A H' p n par f g R := by
  obtain ⟨⟨dx, t, b, a, st, e, r, rs, h1, h2, h3, h4, h5, h6, h7, h8, h9⟩, h10⟩ := h
  exact ⟨⟨dx, t, b, a, st, e, r, rs, s _ _ h1, h2.same s, s _ _ h3, s _ _ h4, s _ _ h5, s _ _ h6, h7, s _ _ h8, fun k c e => s _ _ (h9 k c e)⟩, h10⟩
theorem mem_pk {f : Nat → Option Int} {n : Nat} {q : Key × V} (h : q ∈ pk f n) : ∃ (z : Int) (k : Nat), q = (Sum.inl z, V.int (k : Nat)) ∧ f k = some z ∧ k < n := by
  unfold pk at h
  obtain ⟨k, hk, e⟩ := List.mem_filterMap.mp h
  obtain ⟨z, e1, e2⟩ := Option.map_eq_some_iff.mp e
  exact ⟨z, k, e2.symm, e1, List.mem_range.mp hk⟩
def KpS (rs : List Addr) (H H' : Hp) : Prop := ∀ b o, b ∉ rs → H b = some o → H' b = some o
abbrev sp_Change_init (A : Ad) : Sp := sp4 fun x y z u H Q => ∃ p dx c b a n par f g, x = .ref p ∧ y = .ref c ∧ z = .ref b ∧ u = .ref a ∧ H p = some (.ins A.C dx []) ∧ H c = some (.tup (chV n par)) ∧ H b = some (.tup (arV n f)) ∧ H a = some (.tup (arV n g)) ∧ TreeOk n par ∧ Valid n par f ∧ Valid n par g ∧
  ∀ H' R, (∀ b o, b ≠ p → H b = some o → H' b = some o) → ChangeAt A H' p n par f g R → Q .non H'
theorem g_Change_init (T : Fx K mg A) : Cf P w K mg base 3 "Change" A.C ["self", "chart", "before", "after"] (sp_Change_init A) := by
  refine cf4 T.d_Change_init sc_Change_init (fun _ _ _ _ _ _ us hl => match us, hl with | [_, _, _, _], _ => rfl) ?_
  rintro v1 v2 v3 v4 f cdv A' outer s E H Q hr ⟨p, dx, c, b, a, n, par, g, h, rfl, rfl, rfl, rfl, hp, hc, hb, ha, ok, vg, vh, q⟩
  refine ⟨_, (pss_cons (ps_fld (pv 0) (pe_mk (g_Tree_init T) hr (pa_cons (pv 1) pa_nil)) rfl)
      (pss_cons (ps_fld (pv 0) (pv 2) rfl)
      (pss_cons (ps_fld (pv 0) (pv 3) rfl)
      (pss_cons (ps_fld (pv 0) (pe_g (g_posts_of_people T) hr (pa_cons (pv 2) pa_nil)) rfl)
      (pss_cons (ps_fld (pv 0) (pe_g (g_posts_of_people T) hr (pa_cons (pv 3) pa_nil)) rfl)
      (pss_cons (ps_fld (pv 0) (pe_lc (own := [("post", 4)]) (g := gName 4) (tt := tYes) rfl sc_Change_init.nd (pi_tup (pv 1)) (blkOk_by (N := ["self", "chart", "before", "after", "post", "person", "meeting"]) (sc := defScope s_Change_init) (by decide +kernel)) (fun _ _ _ _ _ => pg_name (i := 4) sc_Change_init.nd rfl (by first | exact Or.inl rfl | exact Or.inr rfl)) (fun _ _ _ _ _ => pts_nil) (fun _ _ _ _ _ => (pe_lst pa_nil))) rfl)
      (pss_one (ps_for PassesOwn.never rfl (pi_list (pe_callB cr_sortedI (by rfl) T.b_sorted (by decide +kernel) (pa_cons (pe_lock (pe_lc (own := [("person", 5)]) (g := gName 5) rfl sc_Change_init.nd (pi_keys (pe_fld (pv 0) rfl)) (blkOk_by (N := ["self", "chart", "before", "after", "post", "person", "meeting"]) (sc := defScope s_Change_init) (by decide +kernel)) (fun _ _ _ _ _ => pg_name (i := 5) sc_Change_init.nd rfl (by first | exact Or.inl rfl | exact Or.inr rfl)) (fun _ _ _ _ _ => (pts_one (pt_cmp (pc_din (hu_of hr) (pv 5) (pe_fldK K (pv 0)))))) (fun _ _ _ _ _ => (pv 5)))) pa_nil))) (pg_name (i := 5) sc_Change_init.nd rfl (by first | exact Or.inl rfl | exact Or.inr rfl))
      (pss_cons (ps_set (i := 6) sc_Change_init.nd rfl (by first | exact Or.inl rfl | exact Or.inr rfl) (pe_m (g_Tree_common T) rfl T.cl_T hr (pe_fld (pv 0) rfl) (pa_cons (pe_dget (hu_of hr) (pe_fld (pv 0) rfl) (pv 5) (fun _ _ => rfl)) (pa_cons (pe_dget (hu_of hr) (pe_fld (pv 0) rfl) (pv 5) (fun _ _ => rfl)) pa_nil))))
      (pss_one (ps_for PassesOwn.never rfl (pi_list (pe_m (g_Tree_path T) rfl T.cl_T hr (pe_fld (pv 0) rfl) (pa_cons (pv 6) pa_nil))) (pg_name (i := 4) sc_Change_init.nd rfl (by first | exact Or.inl rfl | exact Or.inr rfl))
      (pss_one (ps_expr (pe_bm PySem.F.plainAttrs_list PySem.F.slot_list_append PySem.F.type_list_append mt_append (pe_ix ix_list (pe_fld (pv 0) rfl) (pv 4) (fun _ _ => rfl)) (pa_cons (pv 5) pa_nil))))))))))))))), ?_⟩
  have n8 := ok.le
  refine ⟨_, rfl, fun t dxt ht hdx hne => ⟨t, dxt, c, n, par, rfl, rfl, upd_same, mk1 hc ht hdx, ok, fun H1 k1 _ ⟨HT, tr, shT, hT⟩ => ⟨rfl, ?_⟩⟩⟩
  have s1 := mk2 ht hdx k1
  refine ⟨_, rfl, p, _, dx, _, rfl, s1 _ _ hp, T.cl_C, T.n_C_tree, (by show 0 < 1000; decide), ?_⟩
  rw [fC_1]
  refine ⟨_, rfl, _, rfl, p, _, dx, _, rfl, upd_same, T.cl_C, T.n_C_before, (by show 1 < 1000; decide), ?_⟩
  rw [fC_2]
  refine ⟨_, rfl, _, rfl, p, _, dx, _, rfl, upd_same, T.cl_C, T.n_C_after, (by show 2 < 1000; decide), ?_⟩
  rw [fC_3]
  have npt : t ≠ p := fun z => by subst z; rw [hp] at ht; cases ht
  obtain ⟨H4, eH4⟩ : ∃ H4, H4 = upd (upd (upd H1 p (.ins A.C dx (fCa (.ref t)))) p (.ins A.C dx (fCb (.ref t) (.ref b)))) p (.ins A.C dx (fCc (.ref t) (.ref b) (.ref a))) := ⟨_, rfl⟩
  rw [← eH4]
  have kp4 : Kp p H H4 := fun x o hx e => by rw [eH4, upd_ne hx, upd_ne hx, upd_ne hx]; exact s1 _ _ e
  have e4 : H4 p = some (.ins A.C dx (fCc (.ref t) (.ref b) (.ref a))) := by rw [eH4]; exact upd_same
  have hTp : HT p = none := by
    cases e : HT p with
    | none => rfl
    | some o =>
      rcases hT p o e with z | z | z
      · exact absurd z.symm npt
      · rw [z, hc] at hp; cases hp
      · rw [mk1 hp ht hdx] at z; cases z
  have kT4 : Same HT H4 := fun x o e => by
    have hx : x ≠ p := fun z => by subst z; rw [hTp] at e; cases e
    rw [eH4, upd_ne hx, upd_ne hx, upd_ne hx]; exact shT _ _ e
  clear eH4 k1 hT
  have npc : c ≠ p := fun z => by subst z; rw [hp] at hc; cases hc
  have npb : b ≠ p := fun z => by subst z; rw [hp] at hb; cases hb
  have npa : a ≠ p := fun z => by subst z; rw [hp] at ha; cases ha
  refine ⟨_, rfl, b, n, g, rfl, kp4 _ _ npb hb, n8, vg.inj, fun d1 H5 s5 nd1 ed1 => ?_⟩
  refine ⟨_, rfl, p, _, dx, _, rfl, s5 _ _ e4, T.cl_C, T.n_C_starts, (by show 3 < 1000; decide), ?_⟩
  rw [fC_4]
  have d1p : d1 ≠ p := fun z => by subst z; rw [e4] at nd1; cases nd1
  obtain ⟨H6, eH6⟩ : ∃ H6, H6 = upd H5 p (.ins A.C dx (fCd (.ref t) (.ref b) (.ref a) (.ref d1))) := ⟨_, rfl⟩
  rw [← eH6]
  have k46 : Kp p H4 H6 := Kp.tr (Kp.same s5) (by rw [eH6]; exact Kp.upd_)
  have e6 : H6 p = some (.ins A.C dx (fCd (.ref t) (.ref b) (.ref a) (.ref d1))) := by rw [eH6]; exact upd_same
  have f6 : H6 d1 = some (.dK (pk g n)) := by rw [eH6, upd_ne d1p]; exact ed1
  clear eH6
  have kp6 := Kp.tr kp4 k46
  refine ⟨_, rfl, a, n, h, rfl, kp6 _ _ npa ha, n8, vh.inj, fun d2 H7 s7 nd2 ed2 => ?_⟩
  refine ⟨_, rfl, p, _, dx, _, rfl, s7 _ _ e6, T.cl_C, T.n_C_ends, (by show 4 < 1000; decide), ?_⟩
  rw [fC_5]
  have d2p : d2 ≠ p := fun z => by subst z; rw [e6] at nd2; cases nd2
  have d21 : d2 ≠ d1 := fun z => by subst z; rw [f6] at nd2; cases nd2
  obtain ⟨H8, eH8⟩ : ∃ H8, H8 = upd H7 p (.ins A.C dx (fCe (.ref t) (.ref b) (.ref a) (.ref d1) (.ref d2))) := ⟨_, rfl⟩
  rw [← eH8]
  have k68 : Kp p H6 H8 := Kp.tr (Kp.same s7) (by rw [eH8]; exact Kp.upd_)
  have e8 : H8 p = some (.ins A.C dx (fCe (.ref t) (.ref b) (.ref a) (.ref d1) (.ref d2))) := by rw [eH8]; exact upd_same
  have f8 : H8 d2 = some (.dK (pk h n)) := by rw [eH8, upd_ne d2p]; exact ed2
  clear eH8
  have kp8 := Kp.tr kp6 k68
  refine ⟨_, rfl, c, rfl, ⟨_, SqT.of (kp8 _ _ npc hc)⟩, fun D hD => ?_⟩
  refine lc_lists (by rw [arV_len]; omega) (kp8 _ _ npc hc) hD (fun v => rfl) (fun H9 rs rl eD hrs inj s9 => ?_)
  rw [arV_len] at rl
  refine ⟨_, rfl, p, _, dx, _, rfl, s9 _ _ e8, T.cl_C, T.n_C_reaching, (by show 5 < 1000; decide), ?_⟩
  rw [fC_6]
  have Dp : D ≠ p := fun z => by subst z; rw [e8] at hD; cases hD
  obtain ⟨H10, eH10⟩ : ∃ H10, H10 = upd H9 p (.ins A.C dx (fC (.ref t) (.ref b) (.ref a) (.ref d1) (.ref d2) (.ref D))) := ⟨_, rfl⟩
  rw [← eH10]
  have k810 : Kp p H8 H10 := Kp.tr (Kp.same s9) (by rw [eH10]; exact Kp.upd_)
  have e10 : H10 p = some (.ins A.C dx (fC (.ref t) (.ref b) (.ref a) (.ref d1) (.ref d2) (.ref D))) := by rw [eH10]; exact upd_same
  have fD : H10 D = some (.lst (rs.map V.ref)) := by rw [eH10, upd_ne Dp]; exact eD
  have frs : ∀ c ∈ rs, H10 c = some (.lst []) ∧ c ≠ D ∧ c ≠ p ∧ H8 c = none := fun x hx => by
    obtain ⟨a1, a2, a3⟩ := hrs x hx
    have : x ≠ p := fun z => by subst z; rw [e8] at a3; cases a3
    exact ⟨by rw [eH10, upd_ne this]; exact a1, a2, this, a3⟩
  clear eH10
  have kp10 := Kp.tr kp8 k810
  have e1' := Kp.tr k68 k810 _ _ d1p f6
  have e2' := k810 _ _ d2p f8
  have kT10 : Same HT H10 := fun x o e => by
    have hx : x ≠ p := fun z => by subst z; rw [hTp] at e; cases e
    exact Kp.tr (Kp.tr k46 k68) k810 _ _ hx (kT4 _ _ e)
  have pd1 : p ≠ d1 := fun z => d1p z.symm
  refine ⟨d1, _, e1', trivial, fun od => ?_⟩
  obtain ⟨HL, eHL⟩ : ∃ HL, HL = upd H10 d1 (.frz od (.dK (pk g n))) := ⟨_, rfl⟩
  rw [← eHL]
  have lp : HL p = some (.ins A.C dx (fC (.ref t) (.ref b) (.ref a) (.ref d1) (.ref d2) (.ref D))) := by rw [eHL, upd_ne pd1]; exact e10
  have l1 : HL d1 = some (.frz od (.dK (pk g n))) := by rw [eHL]; exact upd_same
  have l2 : HL d2 = some (.dK (pk h n)) := by rw [eHL, upd_ne d21]; exact e2'
  refine ⟨_, rfl, p, _, dx, _, _, rfl, lp, T.cl_C, T.n_C_starts, fC_starts _ _ _ _ _ _, d1, od, rfl, .inl ⟨_, l1, fun D2 hD2 => ?_⟩⟩
  refine lc_it walk_keys (fun i H' => Same HL H' ∧ ∃ L : List Int, H' D2 = some (.lst (L.map V.int)) ∧ L.length ≤ i ∧ ∀ z ∈ L, (∃ k, k < n ∧ g k = some z) ∧ ∃ k, k < n ∧ h k = some z)
    ⟨Same.new hD2, [], upd_same, Nat.le_refl _, fun z hz => nomatch hz⟩ (fun i H' _ x => x.1 _ _ l1) ?_ ?_
  · rintro i x Ha Hb hi ⟨sm, L, q1, q2, q3⟩ ⟨rfl, kk, v, ek, rfl⟩
    obtain ⟨z, k0, ekz, gk, kn⟩ := mem_pk (List.mem_of_getElem? ek)
    cases ekz
    refine ⟨rfl, _, rfl, _, rfl, p, _, dx, _, _, rfl, sm _ _ lp, T.cl_C, T.n_C_ends, fC_ends _ _ _ _ _ _, d2, _, rfl, DGet.k (k := Sum.inl z) (sm _ _ l2), _, rfl, ?_⟩
    cases ev : valV (pk h n) (Sum.inl z : Key) with
    | none => exact iteF ⟨sm, L, q1, by omega, q3⟩
    | some v =>
      refine iteT ⟨_, rfl, _, q1, ?_, fun x o e => by rw [upd_ne (ne_of_none e hD2)]; exact sm _ _ e, L ++ [z], ?_, ?_, ?_⟩
      · rw [List.length_map]; exact small1000 (by have := pk_len (f := g) (i := n); omega)
      · rw [upd_same, List.map_append]; rfl
      · rw [List.length_append]; exact Nat.succ_le_succ q2
      · intro y hy
        rcases List.mem_append.mp hy with hy | hy
        · exact q3 y hy
        · rw [List.mem_singleton] at hy
          subst hy
          refine ⟨⟨k0, kn, gk⟩, Classical.byContradiction fun nk => ?_⟩
          rw [pk_none fun j hj e => nk ⟨j, hj, e⟩] at ev
          cases ev
  rintro Ha ⟨smL, L, hL, Ll, Lz⟩
  refine ⟨smL _ _ l1, ?_⟩
  have s11 : Same H10 (upd Ha d1 (.dK (pk g n))) := fun x o e => by
    by_cases c : x = d1
    · subst c; rw [e1'] at e; rw [upd_same]; exact e
    · rw [upd_ne c]; exact smL _ _ (by rw [eHL, upd_ne c]; exact e)
  have D2d : D2 ≠ d1 := fun z => by subst z; rw [l1] at hD2; cases hD2
  refine ⟨D2, L, rfl, SqL.of (by rw [upd_ne D2d]; exact hL), fun ns q5 perm rising hq5 => ?_⟩
  obtain ⟨H12, eH12⟩ : ∃ H12, H12 = upd (upd Ha d1 (.dK (pk g n))) q5 (.lst (ns.map V.int)) := ⟨_, rfl⟩
  rw [← eH12]
  have s12 : Same H10 H12 := Same.tr s11 (by rw [eH12]; exact Same.new hq5)
  have hq12 : H12 q5 = some (.lst (ns.map V.int)) := by rw [eH12]; exact upd_same
  have nrs : ∀ x ∈ rs, x ≠ q5 := fun x hx z => by
    have := s11 _ _ (frs x hx).1
    rw [z, hq5] at this; cases this
  have nsl : ns.length ≤ 8 := by rw [perm.length_eq]; have := pk_len (f := g) (i := n); omega
  have nsz : ∀ z ∈ ns, (∃ k, k < n ∧ g k = some z) ∧ ∃ k, k < n ∧ h k = some z := fun z hz => Lz z (perm.mem_iff.mp hz)
  clear eH12 eHL
  have gets : ∀ {H' : Hp}, KpS rs H12 H' → H' p = some (.ins A.C dx (fC (.ref t) (.ref b) (.ref a) (.ref d1) (.ref d2) (.ref D))) ∧ H' d1 = some (.dK (pk g n)) ∧ H' d2 = some (.dK (pk h n)) ∧ H' D = some (.lst (rs.map V.ref)) ∧ Same HT H' ∧ H' q5 = some (.lst (ns.map V.int)) := fun {H'} kk => by
    have nin : ∀ {x o}, H8 x = some o → x ∉ rs := fun {x o} e m => by rw [(frs x m).2.2.2] at e; cases e
    have nin1 : ∀ {x C dx fs}, H12 x = some (.ins C dx fs) → x ∉ rs := fun {x C dx fs} e m => by rw [s12 _ _ (frs x m).1] at e; cases e
    have nin2 : ∀ {x kvs}, H12 x = some (.dK kvs) → x ∉ rs := fun {x kvs} e m => by rw [s12 _ _ (frs x m).1] at e; cases e
    refine ⟨kk _ _ (nin1 (s12 _ _ e10)) (s12 _ _ e10), kk _ _ (nin2 (s12 _ _ e1')) (s12 _ _ e1'), kk _ _ (nin2 (s12 _ _ e2')) (s12 _ _ e2'), kk _ _ (fun m => (frs D m).2.1 rfl) (s12 _ _ fD), fun x o e => ?_, kk _ _ (fun m => nrs q5 m rfl) hq12⟩
    have e8 : H8 x = some o := by
      have hx : x ≠ p := fun z => by subst z; rw [hTp] at e; cases e
      exact Kp.tr k46 k68 _ _ hx (kT4 _ _ e)
    exact kk _ _ (nin e8) (s12 _ _ (kT10 _ _ e))
  refine ⟨q5, rfl, ⟨_, SqL.of hq12⟩, ?_⟩
  refine for_it walk_list (fun i σ H' => (∃ u1 u2 u3, σ = [some (.ref p), some (.ref c), some (.ref b), some (.ref a), u1, u2, u3]) ∧ KpS rs H12 H' ∧ ∃ R : Nat → List Int, (∀ k c, rs[k]? = some c → H' c = some (.lst ((R k).map V.int))) ∧ (∀ k z, z ∈ R k → InR par g h z k) ∧ ∀ k, (R k).length ≤ 8 * i)
    ⟨⟨_, _, _, rfl⟩, fun _ _ _ e => e, fun _ => [], fun k c e => s12 _ _ (frs c (List.mem_of_getElem? e)).1, fun k z (hz : z ∈ ([] : List Int)) => absurd hz List.not_mem_nil, fun k => Nat.zero_le _⟩ (fun i σ H' _ x => SqL.of (gets x.2.1).2.2.2.2.2) ?_ ?_
  · rintro i x σ H13 H14 hi ⟨⟨u1, u2, u3, rfl⟩, kk, R, r1, r2, r3⟩ ⟨rfl, e⟩
    rw [List.getElem?_map] at e
    obtain ⟨z, hz, rfl⟩ := Option.map_eq_some_iff.mp e
    obtain ⟨⟨k1, kn1, gk1⟩, k2, kn2, hk2⟩ := nsz z (List.mem_of_getElem? hz)
    have il : i < 8 := Nat.lt_of_lt_of_le (List.getElem?_eq_some_iff.mp hz).1 nsl
    obtain ⟨m1, m2, m3, m4, m5, m6⟩ := gets kk
    have trH := tr.same m5
    obtain ⟨_, dxt2, ta, tb, tcs, t1, t2, t3, t4, t5⟩ := id trH
    refine ⟨_, rfl, p, _, dx, _, _, rfl, m1, T.cl_C, T.n_C_tree, fC_tree _ _ _ _ _ _, t, dxt2, _, rfl, t1, fT_common _ _, ?_⟩
    refine ⟨_, rfl, p, _, dx, _, _, rfl, m1, T.cl_C, T.n_C_starts, fC_starts _ _ _ _ _ _, _, rfl, d1, _, rfl, (by rw [← pk_some vg.inj gk1 kn1]; exact DGet.k (k := Sum.inl z) m2), ?_⟩
    refine ⟨_, rfl, p, _, dx, _, _, rfl, m1, T.cl_C, T.n_C_ends, fC_ends _ _ _ _ _ _, _, rfl, d2, _, rfl, (by rw [← pk_some vh.inj hk2 kn2]; exact DGet.k (k := Sum.inl z) m3), ?_⟩
    refine ⟨t, n, par, k1, k2, rfl, rfl, rfl, trH, kn1, kn2, fun m am1 am2 => ?_⟩
    have mn : m < n := Nat.lt_of_le_of_lt (am1.le ok kn1) kn1
    refine ⟨_, rfl, p, _, dx, _, _, rfl, m1, T.cl_C, T.n_C_tree, fC_tree _ _ _ _ _ _, t, dxt2, _, rfl, t1, fT_path _ _, _, rfl, t, n, par, m, rfl, rfl, trH, mn, fun pp H15 s15 npp epp => ?_⟩
    have k15 : KpS rs H12 H15 := fun x o hx e => s15 _ _ (kk x o hx e)
    have ppr : pp ∉ rs := fun hm => by
      obtain ⟨j, hj⟩ := List.getElem?_of_mem hm
      rw [r1 j pp hj] at npp; cases npp
    have plen : (pathTo par m).length ≤ 8 := by
      have h2 : ∀ k ∈ pathTo par m, k ∈ List.range n := fun k hk => List.mem_range.mpr (Nat.lt_of_le_of_lt (((mem_pathTo ok m mn k).mp hk).le ok mn) mn)
      have := nodup_len (pathTo_nodup ok m mn) h2
      rw [List.length_range] at this; omega
    refine ⟨pp, rfl, ⟨_, SqL.of epp⟩, ?_⟩
    refine for_it walk_list (fun j σ H' => (∃ u1, σ = [some (.ref p), some (.ref c), some (.ref b), some (.ref a), u1, some (.int z), some (.int (m : Nat))]) ∧ KpS rs H15 H' ∧ ∃ R : Nat → List Int, (∀ k c, rs[k]? = some c → H' c = some (.lst ((R k).map V.int))) ∧ (∀ k z, z ∈ R k → InR par g h z k) ∧ ∀ k, (R k).length ≤ 8 * i + j)
      ⟨⟨_, rfl⟩, fun _ _ _ e => e, R, fun k c e => s15 _ _ (r1 k c e), r2, r3⟩ (fun j σ H' _ x => SqL.of (x.2.1 _ _ ppr epp)) ?_ ?_
    · rintro j x σ H16 H17 hj ⟨⟨v1, rfl⟩, kj, R', w1, w2, w3⟩ ⟨rfl, e'⟩
      unfold natV at e' hj
      rw [List.getElem?_map] at e'
      rw [List.length_map] at hj
      obtain ⟨k, hk, rfl⟩ := Option.map_eq_some_iff.mp e'
      have ak := (mem_pathTo ok m mn k).mp (List.mem_of_getElem? hk)
      have kn : k < n := Nat.lt_of_le_of_lt (ak.le ok mn) mn
      have k16 : KpS rs H12 H17 := fun x o hx e => kj x o hx (k15 x o hx e)
      obtain ⟨o1, o2, o3, o4, o5, o6⟩ := gets k16
      obtain ⟨cc, hcc⟩ : ∃ c, rs[k]? = some c := ⟨rs[k]'(by omega), by simp [show k < rs.length by omega]⟩
      have hcm : (rs.map V.ref)[k]? = some (.ref cc) := by rw [List.getElem?_map, hcc]; rfl
      have hR := w1 k cc hcc
      refine ⟨_, rfl, p, _, dx, _, _, rfl, o1, T.cl_C, T.n_C_reaching, fC_reaching _ _ _ _ _ _, ?_⟩
      refine ⟨_, rfl, D, _, _, _, rfl, rfl, SqL.of o4, atI_nat hcm, ?_⟩
      refine ⟨.inl ⟨rfl, _, SqL.of hR⟩, _, rfl, cc, _, _, rfl, rfl, hR, ?_, ?_⟩
      · rw [List.length_map]; exact small1000 (by have := w3 k; omega)
      · refine ⟨⟨_, rfl⟩, fun x o hx e => ?_, fun q => if q = k then R' k ++ [z] else R' q, fun q c' e => ?_, fun q y hy => ?_, fun q => ?_⟩
        · rw [upd_ne (fun hxc => hx (by rw [hxc]; exact List.mem_of_getElem? hcc))]; exact kj x o hx e
        · show upd _ _ _ _ = some (.lst ((if q = k then R' k ++ [z] else R' q).map V.int))
          by_cases c : q = k
          · subst c
            rw [hcc] at e; cases e
            rw [upd_same, if_pos rfl, List.map_append]; rfl
          · rw [if_neg c, upd_ne (fun hxc => c (inj q k _ e (by rw [hxc]; exact hcc)))]
            exact w1 q c' e
        · have hy : y ∈ (if q = k then R' k ++ [z] else R' q) := hy
          by_cases c : q = k
          · subst c
            rw [if_pos rfl] at hy
            rcases List.mem_append.mp hy with hy | hy
            · exact w2 q y hy
            · rw [List.mem_singleton] at hy
              subst hy
              exact ⟨⟨k1, gk1, ak.trans am1⟩, k2, hk2, ak.trans am2⟩
          · rw [if_neg c] at hy; exact w2 q y hy
        · show (if q = k then R' k ++ [z] else R' q).length ≤ _
          by_cases c : q = k
          · rw [if_pos c, List.length_append]; have := w3 k; show _ + 1 ≤ _; omega
          · rw [if_neg c]; have := w3 q; omega
    · rintro σ H16 ⟨⟨v1, rfl⟩, kj, R', w1, w2, w3⟩
      refine ⟨⟨_, _, _, rfl⟩, fun x o hx e => kj x o hx (k15 x o hx e), R', w1, w2, fun k => ?_⟩
      have := w3 k
      unfold natV at this
      rw [List.length_map] at this
      omega
  · rintro σ H13 ⟨⟨u1, u2, u3, rfl⟩, kk, R, r1, r2, r3⟩
    obtain ⟨m1, m2, m3, m4, m5, m6⟩ := gets kk
    have fin : ∀ x o, x ≠ p → H x = some o → H13 x = some o := fun x o hx e => by
      have e8 := kp8 _ _ hx e
      refine kk _ _ (fun m => ?_) (s12 _ _ (kp10 _ _ hx e))
      rw [(frs x m).2.2.2] at e8; cases e8
    exact q H13 R fin ⟨⟨dx, t, b, a, d1, d2, D, rs, m1, tr.same m5, fin _ _ npb hb, fin _ _ npa ha, m2, m3, rl, m4, r1⟩, r2⟩
end MV
end

section
set_option Elab.async false
set_option autoImplicit false
set_option linter.all false
set_option maxRecDepth 100000
set_option maxHeartbeats 4000000
namespace MV
open PySem PySem.Spec PyProof.Rows L2 L3 MU PySem.W
variable {P : Program} {w : World} {K : PySem.W.Frag} {mg : Str → Option Value} {base : Heap} {A : Ad}
abbrev sp_Change_first_after (A : Ad) : Sp := sp3 fun x y z H Q => ∃ p n par f g R k s, x = .ref p ∧ y = .int (k : Nat) ∧ z = .int s ∧ ChangeAt A H p n par f g R ∧ k < n ∧ Q (oV (fstA (R k) s)) H
theorem g_Change_first_after (T : Fx K mg A) : Mf P w K mg base 1 (IsC A) "first_after" ["self", "post", "senior"] (sp_Change_first_after A) := by
  refine mf3 T.d_Change_first_after sc_Change_first_after (fun _ _ _ _ _ _ us hl => match us, hl with | [_, _, _], _ => rfl) ?_
  rintro v1 v2 v3 f cdv A' outer s E H Q hr ⟨p, n, par, g, h, R, k, sn, rfl, rfl, rfl, hp, hk, q⟩
  refine ⟨_, (pss_cons (ps_for PassesOwn.never rfl (pi_list (pe_ix ix_list (pe_fld (pv 0) rfl) (pv 1) (fun _ _ => rfl))) (pg_name (i := 3) sc_Change_first_after.nd rfl (by first | exact Or.inl rfl | exact Or.inr rfl))
      (pss_one (ps_if (pt_cmpR op_gt (pv 3) (pv 2) (nomark _)) (pss_one (ps_ret (pv 3))) pss_nil)))
      (pss_one (ps_ret pe_non))), ?_⟩
  obtain ⟨⟨dx, t, b, a, st, e, r, rs, h1, h2, h3, h4, h5, h6, h7, h8, h9⟩, h10⟩ := hp
  obtain ⟨cc, hcc⟩ : ∃ c, rs[k]? = some c := ⟨rs[k]'(by omega), by simp [show k < rs.length by omega]⟩
  have hcm : (rs.map V.ref)[k]? = some (.ref cc) := by rw [List.getElem?_map, hcc]; rfl
  refine ⟨_, rfl, p, _, dx, _, _, rfl, h1, T.cl_C, T.n_C_reaching, fC_reaching _ _ _ _ _ _, ?_⟩
  refine ⟨_, rfl, r, _, _, _, rfl, rfl, SqL.of h8, atI_nat hcm, cc, rfl, ⟨_, SqL.of (h9 k cc hcc)⟩, ?_⟩
  refine for_it walk_list (fun i σ H' => (∃ u, σ = [some (.ref p), some (.int (k : Nat)), some (.int sn), u]) ∧ H' = H ∧ fstA (R k) sn = fstA ((R k).drop i) sn) ⟨⟨_, rfl⟩, rfl, rfl⟩ (fun i σ H' _ x => by rw [x.2.1]; exact SqL.of (h9 k cc hcc)) ?_ ?_
  · rintro i x σ H1 H2 hi ⟨⟨u, rfl⟩, rfl, e1⟩ ⟨rfl, e2⟩
    rw [List.getElem?_map] at e2
    obtain ⟨z, hz, rfl⟩ := Option.map_eq_some_iff.mp e2
    obtain ⟨il, ez⟩ := List.getElem?_eq_some_iff.mp hz
    rw [List.drop_eq_getElem_cons il, ez] at e1
    refine ⟨_, rfl, _, rfl, _, _, rfl, rfl, _, rfl, ?_⟩
    by_cases c : sn < z
    · refine ifT (decide_eq_true c) ?_
      refine ⟨_, rfl, ?_⟩
      have : fstA (R k) sn = some z := by
        rw [e1]; unfold fstA; rw [List.find?_cons, decide_eq_true c]
      rw [this] at q; exact q
    · refine ifF (decide_eq_false c) ⟨⟨_, rfl⟩, rfl, ?_⟩
      rw [e1]; unfold fstA; rw [List.find?_cons, decide_eq_false c]
  · rintro σ H1 ⟨⟨u, rfl⟩, rfl, e1⟩
    rw [List.length_map, List.drop_length] at e1
    rw [e1] at q; exact q
/-! ### staying -/
def wpAt (H : Hp) (p : Addr) (q : Nat × Int) : Prop := H p = some (.tup [.int (q.1 : Nat), .int q.2])
theorem paired_append {α β : Type} {F : α → β → Prop} : ∀ {xs : List α} {ys : List β} {as : List α} {bs : List β}, Paired F xs ys → Paired F as bs → Paired F (xs ++ as) (ys ++ bs)
  | _, _, _, _, .nil, h => h
  | _, _, _, _, .cons a t, h => .cons a (paired_append t h)
theorem paired_rev {α β : Type} {F : α → β → Prop} : ∀ {xs : List α} {ys : List β}, Paired F xs ys → Paired F xs.reverse ys.reverse
  | _, _, .nil => .nil
  | _, _, .cons a t => by rw [List.reverse_cons, List.reverse_cons]; exact paired_snoc (paired_rev t) a
theorem paired_last {α β : Type} {F : α → β → Prop} : ∀ {xs : List α} {ys : List β}, Paired F xs ys → xs ≠ [] → ∃ xs' x ys' y, xs = xs' ++ [x] ∧ ys = ys' ++ [y] ∧ Paired F xs' ys' ∧ F x y
  | [], _, _, h => absurd rfl h
  | [x], _, .cons (b := y) a .nil, _ => ⟨[], x, [], y, rfl, rfl, .nil, a⟩
  | x :: x2 :: xs2, _, .cons (b := y) a t, _ => by
    obtain ⟨xs', z, ys', u, e1, e2, p, q⟩ := paired_last t (by simp)
    exact ⟨x :: xs', z, y :: ys', u, by rw [e1]; rfl, by rw [e2]; rfl, .cons a p, q⟩
theorem ppl_fset {G : Arr} {p : Nat} {z y : Int} (h : G p = none) : Ppl (fset G p (some z)) y ↔ Ppl G y ∨ y = z := by
  constructor
  · rintro ⟨k, hk⟩
    by_cases c : k = p
    · subst c; rw [fset_same] at hk; exact .inr (Option.some.inj hk).symm
    · rw [fset_ne _ _ c] at hk; exact .inl ⟨k, hk⟩
  · rintro (⟨k, hk⟩ | rfl)
    · exact ⟨k, by rw [fset_ne _ _ (by rintro rfl; rw [h] at hk; cases hk)]; exact hk⟩
    · exact ⟨p, fset_same _ _ _⟩
theorem wst_len {n : Nat} {par : Nat → Nat} {R : Nat → List Int} {G : Arr} {vis : List Nat} {wl : List (Nat × Int)} (w : Wst n par R G vis wl) : vis.length ≤ n ∧ wl.length ≤ n := by
  constructor
  · have := nodup_len w.vnd (l2 := List.range n) fun k hk => List.mem_range.mpr (w.vn k hk)
    rwa [List.length_range] at this
  · have := nodup_len w.wnd (l2 := List.range n) fun k hk => by
      obtain ⟨q, hq, rfl⟩ := List.mem_map.mp hk
      exact List.mem_range.mpr (w.wn q hq).1
    rwa [List.length_range, List.length_map] at this
theorem kids_nodup {par : Nat → Nat} {n k : Nat} : (kidsU par n k).Nodup := List.Nodup.sublist List.filter_sublist List.nodup_range
abbrev sp_Change_staying (A : Ad) : Sp := sp1 fun x H Q => ∃ p n par f g R, x = .ref p ∧ ChangeAt A H p n par f g R ∧ ∀ q H' (S : List Int) (G : Arr), Same H H' → H' q = some (.lst (S.map V.int)) → IsG n par R G → (∀ z, z ∈ S ↔ Ppl G z) → S.length ≤ 8 → Q (.ref q) H'
theorem g_Change_staying (T : Fx K mg A) : Mf P w K mg base 2 (IsC A) "staying" ["self"] (sp_Change_staying A) := by
  refine mf1 T.d_Change_staying sc_Change_staying (fun _ _ _ _ _ _ us hl => match us, hl with | [_], _ => rfl) ?_
  rintro v1 f cdv A' outer s E H Q hr ⟨p, n, par, g, h, R, rfl, hp, q⟩
  refine ⟨_, (pss_cons (ps_set (i := 1) sc_Change_staying.nd rfl (by first | exact Or.inl rfl | exact Or.inr rfl) (pe_lst pa_nil))
      (pss_cons (ps_set (i := 2) sc_Change_staying.nd rfl (by first | exact Or.inl rfl | exact Or.inr rfl) (pe_lst (pa_cons (pe_tup (pa_cons pe_int (pa_cons (pe_un un_neg pe_int) pa_nil))) pa_nil)))
      (pss_cons (ps_while PassesOwn.never (pt_truth (pv 2) (by intro _; rfl))
      (pss_cons (ps_asg (pe_bm0 PySem.F.plainAttrs_list PySem.F.slot_list_pop PySem.F.type_list_pop mt_pop (pv 2)) (pg_tup rfl (pgs_cons (pg_name (i := 3) sc_Change_staying.nd rfl (by first | exact Or.inl rfl | exact Or.inr rfl)) (pgs_cons (pg_name (i := 4) sc_Change_staying.nd rfl (by first | exact Or.inl rfl | exact Or.inr rfl)) pgs_nil))))
      (pss_cons (ps_set (i := 5) sc_Change_staying.nd rfl (by first | exact Or.inl rfl | exact Or.inr rfl) (pe_m (g_Change_first_after T) rfl T.cl_C hr (pv 0) (pa_cons (pv 3) (pa_cons (pv 4) pa_nil))))
      (pss_one (ps_if (pt_cmpR op_notN (pv 5) pe_non (nomark _)) (pss_cons (ps_expr (pe_bm PySem.F.plainAttrs_list PySem.F.slot_list_append PySem.F.type_list_append mt_append (pv 1) (pa_cons (pv 5) pa_nil)))
      (pss_one (ps_expr (pe_bm PySem.F.plainAttrs_list PySem.F.slot_list_extend PySem.F.type_list_extend mt_extend (pv 2) (pa_cons (pe_lc (own := [("below", 6)]) (g := gName 6) (tt := tYes) rfl sc_Change_staying.nd (pi_list (pe_ix ix_list (pe_fld (pe_fld (pv 0) rfl) rfl) (pv 3) (fun _ _ => rfl))) (blkOk_by (N := ["self", "found", "waiting", "post", "senior", "person", "below"]) (sc := defScope s_Change_staying) (by decide +kernel)) (fun _ _ _ _ _ => pg_name (i := 6) sc_Change_staying.nd rfl (by first | exact Or.inl rfl | exact Or.inr rfl)) (fun _ _ _ _ _ => pts_nil) (fun _ _ _ _ _ => (pe_tup (pa_cons (pv 6) (pa_cons (pv 5) pa_nil))))) pa_nil))))) pss_nil)))))
      (pss_one (ps_ret (pe_callB cr_sortedI (by rfl) T.b_sorted (by decide +kernel) (pa_cons (pv 1) pa_nil))))))), ?_⟩
  obtain ⟨⟨dx, t, b, a, st, e, r, rs, h1, h2, h3, h4, h5, h6, h7, h8, h9⟩, h10⟩ := id hp
  have ok := h2.ok
  have n8 := ok.le
  obtain ⟨_, dxt, ta, tb, tcs, t1, t2, t3, t4, t5⟩ := id h2
  refine ⟨Nat.zero_le _, fun l1 n1 => ?_⟩
  refine ⟨1, rfl, by show 2 ≤ sizeLine; decide, fun w0 nw0 => ?_⟩
  refine ⟨by show 1 ≤ sizeLine; decide, fun l2 n2 => ?_⟩
  have s1 : Same H (upd H l1 (.lst [])) := Same.new n1
  have s2 := Same.tr s1 (Same.new (o := .tup [.int ((0 : Nat) : Int), .int (-1)]) nw0)
  have s3 := Same.tr s2 (Same.new (o := .lst [.ref w0]) n2)
  have hl1 : H l1 = none := n1
  have hl2 : H l2 = none := s2.free n2
  have l12 : l1 ≠ l2 := ne_of_none (by rw [upd_ne (ne_of_none upd_same nw0)]; exact upd_same) n2
  have w0l : w0 ≠ l2 := ne_of_none upd_same n2
  refine ⟨fun m σ H' => ∃ (fl : List Int) (ps : List Addr) (wl : List (Nat × Int)) (vis : List Nat) (G : Arr), (∃ u1 u2 u3 u4, σ = [some (.ref p), some (.ref l1), some (.ref l2), u1, u2, u3, u4]) ∧ Same H H' ∧ H' l1 = some (.lst (fl.map V.int)) ∧ H' l2 = some (.lst (ps.map V.ref)) ∧ Paired (wpAt H') ps wl ∧ Wst n par R G vis wl ∧ (∀ z, z ∈ fl ↔ Ppl G z) ∧ fl.length ≤ vis.length ∧ m = n - vis.length,
    ⟨n, [], [w0], [(0, -1)], [], fun _ => none, ⟨_, _, _, _, rfl⟩, s3, ?_, upd_same, .cons ?_ .nil, Wst.start ok, fun z => ?_, Nat.le_refl _, rfl⟩, ?_⟩
  · exact (upd_ne l12).trans ((upd_ne (ne_of_none upd_same nw0)).trans upd_same)
  · exact (upd_ne w0l).trans upd_same
  · constructor
    · intro hz; cases hz
    · rintro ⟨k, hk⟩; cases hk
  rintro m σ H4 ⟨fl, ps, wl, vis, G, ⟨u1, u2, u3, u4, rfl⟩, sm, e1, e2, pr, ws, fp, fv, rfl⟩
  refine ⟨_, rfl, !(ps.map V.ref).isEmpty, .inl ⟨_, SqL.of e2, rfl⟩, ?_⟩
  by_cases c0 : ps = []
  · subst c0
    cases pr
    refine ifF rfl ?_
    refine ⟨_, rfl, l1, fl, rfl, SqL.of e1, fun ns q5 perm rising hq5 => ?_⟩
    refine q q5 _ ns G (Same.tr sm (Same.new hq5)) upd_same (ws.fin ok) (fun z => (perm.mem_iff).trans (fp z)) ?_
    rw [perm.length_eq]; have := (wst_len ws).1; omega
  obtain ⟨ps', wp, wl', ⟨wq, wsn⟩, rfl, rfl, pr', hwp⟩ := paired_last pr c0
  have vl := (wst_len ws)
  refine ifT (by rw [List.map_append]; cases ps'.map V.ref <;> rfl) ?_
  have wnn := ws.wn (wq, wsn) (by simp)
  have wqn : wq < n := wnn.1
  have wl8 : wl'.length ≤ 8 := by have := vl.2; rw [List.length_append] at this; omega
  refine ⟨fun σ H' => ∃ m', m' < n - vis.length ∧ ∃ (fl : List Int) (ps : List Addr) (wl : List (Nat × Int)) (vis : List Nat) (G : Arr), (∃ u1 u2 u3 u4, σ = [some (.ref p), some (.ref l1), some (.ref l2), u1, u2, u3, u4]) ∧ Same H H' ∧ H' l1 = some (.lst (fl.map V.int)) ∧ H' l2 = some (.lst (ps.map V.ref)) ∧ Paired (wpAt H') ps wl ∧ Wst n par R G vis wl ∧ (∀ z, z ∈ fl ↔ Ppl G z) ∧ fl.length ≤ vis.length ∧ m' = n - vis.length, fun σ' H' x => x, ?_⟩
  refine ⟨_, rfl, .inl ⟨rfl, _, SqL.of e2⟩, l2, _, .ref wp, rfl, rfl, e2, by simp, ?_⟩
  have ed : (((ps' ++ [wp]).map V.ref).dropLast) = ps'.map V.ref := by rw [List.map_append]; exact List.dropLast_concat
  rw [ed]
  obtain ⟨H5, eH5⟩ : ∃ H5, H5 = upd H4 l2 (.lst (ps'.map V.ref)) := ⟨_, rfl⟩
  rw [← eH5]
  have k5 : Kp l2 H4 H5 := by rw [eH5]; exact Kp.upd_
  have f2 : H5 l2 = some (.lst (ps'.map V.ref)) := by rw [eH5]; exact upd_same
  clear eH5
  have tl2 : ∀ {x xs}, H4 x = some (.tup xs) → x ≠ l2 := fun {x xs} e => ne_of e e2 (by intro z; cases z)
  have s5 : Same H H5 := fun x o e => k5 _ _ (ne_of_none e hl2) (sm _ _ e)
  have f1 : H5 l1 = some (.lst (fl.map V.int)) := k5 _ _ l12 e1
  have pr5 : Paired (wpAt H5) ps' wl' := paired_up pr' fun x y e => k5 _ _ (tl2 e) e
  have hw5 : H5 wp = some (.tup [.int (wq : Nat), .int wsn]) := k5 _ _ (tl2 hwp) hwp
  refine gpair hw5 ?_
  refine ⟨_, rfl, p, dx, _, rfl, s5 _ _ h1, fC_m1 _ _ _ _ _ _, _, rfl, _, rfl, p, n, par, g, h, R, wq, wsn, rfl, rfl, rfl, hp.same s5, wqn, ?_⟩
  obtain ⟨st1, st2⟩ := ws.step ok (kids_nodup (par := par) (n := n) (k := wq)) (fun j => mem_kids)
  refine ⟨_, rfl, rfl, _, rfl, ?_⟩
  cases ef : fstA (R wq) wsn with
  | none =>
    refine ifF rfl ?_
    refine ⟨n - (wq :: vis).length, ?_, fl, ps', wl', wq :: vis, G, ⟨_, _, _, _, rfl⟩, s5, f1, f2, pr5, st1 ef, fp, by rw [List.length_cons]; omega, rfl⟩
    have := (wst_len (st1 ef)).1
    rw [List.length_cons] at this ⊢; omega
  | some z =>
    refine ifT rfl ?_
    have w' := st2 z ef
    refine ⟨_, rfl, .inl ⟨rfl, _, SqL.of f1⟩, _, rfl, l1, _, _, rfl, rfl, f1, ?_, ?_⟩
    · rw [List.length_map]; exact small1000 (by omega)
    obtain ⟨H6, eH6⟩ : ∃ H6, H6 = upd H5 l1 (.lst (fl.map V.int ++ [.int z])) := ⟨_, rfl⟩
    rw [show (fl.map V.int ++ [oV (some z)]) = (fl.map V.int ++ [V.int z]) from rfl, ← eH6]
    have k6 : Kp l1 H5 H6 := by rw [eH6]; exact Kp.upd_
    have g1 : H6 l1 = some (.lst ((fl ++ [z]).map V.int)) := by rw [eH6, List.map_append]; exact upd_same
    clear eH6
    have s6 : Same H H6 := fun x o e => k6 _ _ (ne_of_none e hl1) (s5 _ _ e)
    have g2 : H6 l2 = some (.lst (ps'.map V.ref)) := k6 _ _ l12.symm f2
    have pr6 : Paired (wpAt H6) ps' wl' := paired_up pr5 fun x y e => k6 _ _ (ne_of e f1 (by intro z; cases z)) e
    refine ⟨_, rfl, .inl ⟨rfl, _, SqL.of g2⟩, ?_⟩
    obtain ⟨cc, hcc⟩ : ∃ c, tcs[wq]? = some c := ⟨tcs[wq]'(by omega), by simp [show wq < tcs.length by omega]⟩
    have hcm : (tcs.map V.ref)[wq]? = some (.ref cc) := by rw [List.getElem?_map, hcc]; rfl
    have hkid := s6 _ _ (t5 wq cc hcc)
    refine ⟨_, rfl, p, _, dx, _, _, rfl, s6 _ _ h1, T.cl_C, T.n_C_tree, fC_tree _ _ _ _ _ _, t, _, dxt, _, _, rfl, s6 _ _ t1, T.cl_T, T.n_T_below, fT_below _ _, ?_⟩
    refine ⟨_, rfl, tb, _, _, _, rfl, rfl, SqL.of (s6 _ _ t4), atI_nat hcm, cc, rfl, ⟨_, SqL.of hkid⟩, fun D hD => ?_⟩
    have kl : (kidsU par n wq).length ≤ 8 := by unfold kidsU; exact Nat.le_trans (List.length_filter_le _ _) (by simpa using n8)
    refine lc_it walk_list (fun i H' => Same H6 H' ∧ ∃ qs : List Addr, H' D = some (.lst (qs.map V.ref)) ∧ Paired (wpAt H') qs (((kidsU par n wq).take i).map fun j => (j, z)) ∧ qs.length ≤ i)
      ⟨Same.new hD, [], upd_same, .nil, Nat.le_refl _⟩ (fun i H' _ x => SqL.of (x.1 _ _ hkid)) ?_ ?_
    · rintro i x H7 H8 hi ⟨sm7, qs, y1, y2, y3⟩ ⟨rfl, ex⟩
      unfold natV at ex hi
      rw [List.getElem?_map] at ex
      rw [List.length_map] at hi
      obtain ⟨j, hj, rfl⟩ := Option.map_eq_some_iff.mp ex
      refine ⟨rfl, _, rfl, _, rfl, by show 2 ≤ sizeLine; decide, fun x hx => ?_⟩
      have hxD : x ≠ D := (ne_of_none y1 hx).symm
      refine ⟨qs.map V.ref, by rw [upd_ne hxD.symm]; exact y1, by rw [List.length_map]; exact small1000 (by omega), fun b o e => by rw [upd_ne (ne_of_none e hD), upd_ne (ne_of_none (sm7 _ _ e) hx)]; exact sm7 _ _ e, qs ++ [x], by rw [upd_same, List.map_append]; rfl, ?_, by simp; omega⟩
      rw [List.take_add_one, hj, List.map_append]
      refine paired_append (paired_up y2 fun b xx hb => ?_) (.cons ?_ .nil)
      · have b1 : b ≠ x := ne_of_none hb hx
        have b2 : b ≠ D := fun z => by subst z; unfold wpAt at hb; rw [y1] at hb; cases hb
        unfold wpAt; rw [upd_ne b2, upd_ne b1]; exact hb
      · show upd _ _ _ x = _
        rw [upd_ne hxD, upd_same]; rfl
    rintro H7 ⟨s7, qs, y1, y2, y3⟩
    have ek : (kidsU par n wq).take (natV (kidsU par n wq)).length = kidsU par n wq := by unfold natV; rw [List.length_map, List.take_length]
    rw [ek] at y2
    have y3 : qs.length ≤ 8 := by unfold natV at y3; rw [List.length_map] at y3; omega
    have hl7 : H7 l2 = some (.lst (ps'.map V.ref)) := s7 _ _ g2
    refine ⟨l2, D, _, _, rfl, rfl, hl7, y1, ?_, ?_⟩
    · rw [List.length_map, List.length_map, paired_len pr']
      exact Nat.le_of_lt (small1000 (by omega))
    have tl7 : ∀ {x xs}, H7 x = some (.tup xs) → x ≠ l2 := fun {x xs} e => ne_of e hl7 (by intro z; cases z)
    refine ⟨n - (wq :: vis).length, ?_, fl ++ [z], ps' ++ qs, _, wq :: vis, _, ⟨_, _, _, _, rfl⟩, fun x o e => ?_, ?_, ?_, ?_, w', fun y => ?_, ?_, rfl⟩
    · have := (wst_len w').1
      rw [List.length_cons] at this ⊢; omega
    · rw [upd_ne (ne_of_none e hl2)]; exact s7 _ _ (s6 _ _ e)
    · rw [upd_ne l12]; exact s7 _ _ g1
    · rw [upd_same, List.map_append]
    · refine paired_append (paired_up pr6 fun x y e => ?_) (paired_up y2 fun x y e => ?_)
      · show upd _ _ _ x = _
        rw [upd_ne (tl7 (s7 _ _ e))]; exact s7 _ _ e
      · show upd _ _ _ x = _
        rw [upd_ne (tl7 e)]; exact e
    · rw [ppl_fset (ws.gn wq wnn.2), List.mem_append, fp y, List.mem_singleton]
    · rw [List.length_append, List.length_cons]; exact Nat.succ_le_succ fv
/-! ### leaving_steps -/
def keyI (q : Key × V) : Int := match q.1 with | Sum.inl z => z | Sum.inr _ => 0
theorem mem_ppl {f : Nat → Option Int} {n : Nat} {z : Int} : z ∈ ppl f n ↔ ∃ k, k < n ∧ f k = some z := by
  unfold ppl
  rw [List.mem_filterMap]
  constructor
  · rintro ⟨k, hk, e⟩; exact ⟨k, List.mem_range.mp hk, e⟩
  · rintro ⟨k, hk, e⟩; exact ⟨k, List.mem_range.mpr hk, e⟩
theorem mem_pplV {f : Nat → Option Int} {n : Nat} {par : Nat → Nat} {z : Int} (V : Valid n par f) : z ∈ ppl f n ↔ Ppl f z := by
  rw [mem_ppl]
  exact ⟨fun ⟨k, _, e⟩ => ⟨k, e⟩, fun ⟨k, e⟩ => ⟨k, V.lt e, e⟩⟩
theorem ppl_succ {f : Nat → Option Int} {i : Nat} : ppl f (i + 1) = ppl f i ++ (f i).toList := by
  unfold ppl
  rw [List.range_succ, List.filterMap_append]
  congr 1
theorem ppl_nodup {f : Nat → Option Int} (inj : ∀ i j x, f i = some x → f j = some x → i = j) : ∀ n, (ppl f n).Nodup
  | 0 => List.nodup_nil
  | i + 1 => by
    rw [ppl_succ, List.nodup_append]
    refine ⟨ppl_nodup inj i, by cases f i <;> simp, fun a ha b hb => ?_⟩
    rintro rfl
    obtain ⟨k, hk, e⟩ := mem_ppl.mp ha
    have e2 : f i = some a := by simpa using hb
    have := inj _ _ _ e e2
    omega
theorem ppl_len {f : Nat → Option Int} {n : Nat} : (ppl f n).length ≤ n := by
  unfold ppl
  exact Nat.le_trans (List.length_filterMap_le _ _) (by simp)
/-- the ones of ys that are not in S -/
def without (S ys : List Int) : List Int := ys.filter fun z => decide (z ∉ S)
theorem mem_without {S ys : List Int} {z : Int} : z ∈ without S ys ↔ z ∈ ys ∧ z ∉ S := by
  unfold without
  rw [List.mem_filter, decide_eq_true_iff]
theorem without_snoc {S ys : List Int} {z : Int} : without S (ys ++ [z]) = without S ys ++ (if z ∈ S then [] else [z]) := by
  unfold without
  rw [List.filter_append]
  congr 1
  by_cases c : z ∈ S
  · simp [c]
  · simp [c]
abbrev sp_Change_leaving_steps (A : Ad) : Sp := sp1 fun x H Q => ∃ p n par f g R, x = .ref p ∧ ChangeAt A H p n par f g R ∧ Valid n par f ∧ ∀ l H' (xs : List Int) (G : Arr), Same H H' → StL H' l (xs.map .lv) → IsG n par R G → (∀ z, z ∈ xs ↔ Ppl f z ∧ ¬ Ppl G z) → xs.Nodup → xs.length ≤ 8 → Q (.ref l) H'
theorem g_Change_leaving_steps (T : Fx K mg A) : Mf P w K mg base 3 (IsC A) "leaving_steps" ["self"] (sp_Change_leaving_steps A) := by
  refine mf1 T.d_Change_leaving_steps sc_Change_leaving_steps (fun _ _ _ _ _ _ us hl => match us, hl with | [_], _ => rfl) ?_
  rintro v1 f cdv A' outer s E H Q hr ⟨p, n, par, g, h, R, rfl, hp, vg, q⟩
  refine ⟨_, (pss_cons (ps_set (i := 1) sc_Change_leaving_steps.nd rfl (by first | exact Or.inl rfl | exact Or.inr rfl) (pe_m0 (g_Change_staying T) rfl T.cl_C hr (pv 0) ))
      (pss_one (ps_ret (pe_lc (own := [("person", 2)]) (g := gName 2) rfl sc_Change_leaving_steps.nd (pi_list (pe_callB (call_sortedDI rfl) (by rfl) T.b_sorted (by decide +kernel) (pa_cons (pe_fld (pv 0) rfl) pa_nil))) (blkOk_by (N := ["self", "staying", "person"]) (sc := defScope s_Change_leaving_steps) (by decide +kernel)) (fun _ _ _ _ _ => pg_name (i := 2) sc_Change_leaving_steps.nd rfl (by first | exact Or.inl rfl | exact Or.inr rfl)) (fun _ _ _ _ _ => (pts_one (pt_cmpR (ninK K) (pv 2) (pv 1) (by rfl)))) (fun _ _ _ _ _ => (pe_tup (pa_cons pe_str (pa_cons (pv 2) pa_nil)))))))), ?_⟩
  obtain ⟨⟨dx, t, b, a, st, e, r, rs, h1, h2, h3, h4, h5, h6, h7, h8, h9⟩, h10⟩ := id hp
  have ok := h2.ok
  have n8 := ok.le
  refine ⟨_, rfl, p, dx, _, rfl, h1, fC_m2 _ _ _ _ _ _, p, n, par, g, h, R, rfl, hp, fun sl H1 S G s1 eS iG mS lS => ?_⟩
  have pl := ppl_len (f := g) (n := n)
  refine ⟨_, rfl, p, _, dx, _, _, rfl, s1 _ _ h1, T.cl_C, T.n_C_starts, fC_starts _ _ _ _ _ _, st, _, ppl g n, rfl, .inl (s1 _ _ h5), pk_keys, by omega, fun ys yl perm rising nyl => ?_⟩
  refine ⟨yl, rfl, ⟨_, SqL.of upd_same⟩, fun D hD => ?_⟩
  have s2 : Same H1 (upd H1 yl (.lst (ys.map V.int))) := Same.new nyl
  have yn : ys.length ≤ 8 := by rw [perm.length_eq]; omega
  obtain ⟨H2, eH2⟩ : ∃ H2, H2 = upd H1 yl (.lst (ys.map V.int)) := ⟨_, rfl⟩
  rw [← eH2] at s2 hD ⊢
  have ey : H2 yl = some (.lst (ys.map V.int)) := by rw [eH2]; exact upd_same
  refine lc_it walk_list (fun i H' => Same H2 H' ∧ ∃ ps : List Addr, H' D = some (.lst (ps.map V.ref)) ∧ Paired (StAt H') ps ((without S (ys.take i)).map .lv))
    ⟨Same.new hD, [], upd_same, .nil⟩ (fun i H' _ x => SqL.of (x.1 _ _ ey)) ?_ ?_
  · rintro i x H3 H4 hi ⟨sm, ps, y1, y2⟩ ⟨rfl, ex⟩
    rw [List.getElem?_map] at ex
    obtain ⟨z, hz, rfl⟩ := Option.map_eq_some_iff.mp ex
    have et : ys.take (i + 1) = ys.take i ++ [z] := by rw [List.take_add_one, hz]; rfl
    refine ⟨rfl, _, rfl, _, rfl, sl, _, rfl, .inl (SqL.of (sm _ _ (s2 _ _ eS))), rfl, flat_ints, _, rfl, ?_⟩
    rw [et, without_snoc]
    by_cases c : z ∈ S
    · rw [if_pos c, List.append_nil]
      refine ifF ?_ ⟨sm, ps, y1, y2⟩
      show (!inV (.int z) (S.map V.int)) = false
      rw [inV_ints, decide_eq_true c]; rfl
    · rw [if_neg c, List.map_append]
      refine ifT ?_ ?_
      · show (!inV (.int z) (S.map V.int)) = true
        rw [inV_ints, decide_eq_false c]; rfl
      refine ⟨_, rfl, by show 2 ≤ sizeLine; decide, fun x hx => ?_⟩
      have hxD : x ≠ D := (ne_of_none y1 hx).symm
      have pll := paired_len y2
      refine ⟨ps.map V.ref, by rw [upd_ne hxD.symm]; exact y1, ?_, fun b o e => by rw [upd_ne (ne_of_none e hD), upd_ne (ne_of_none (sm _ _ e) hx)]; exact sm _ _ e, ps ++ [x], by rw [upd_same, List.map_append]; rfl, ?_⟩
      · rw [List.length_map, pll, List.length_map]
        exact small1000 (Nat.le_trans (List.length_filter_le _ _) (by rw [List.length_take]; omega))
      refine paired_append (paired_up y2 fun b xx hb => hb.keep fun us hu => ?_) (.cons ?_ .nil)
      · have b1 : b ≠ x := ne_of_none hu hx
        have b2 : b ≠ D := fun z => by subst z; rw [y1] at hu; cases hu
        rw [upd_ne b2, upd_ne b1]; exact hu
      · show upd _ _ _ x = _
        rw [upd_ne hxD, upd_same]
  rintro H3 ⟨s3, ps, y1, y2⟩
  rw [List.length_map, List.take_length] at y2
  refine q D H3 (without S ys) G (Same.tr s1 (Same.tr s2 s3)) ⟨ps, y1, y2⟩ iG (fun z => ?_) ?_ (Nat.le_trans (List.length_filter_le _ _) yn)
  · rw [mem_without, perm.mem_iff, mem_pplV vg, mS]
  · exact List.Nodup.sublist List.filter_sublist (perm.nodup_iff.mpr (ppl_nodup vg.inj n))
/-! ### joining_steps -/
def jnOf (q : Int × Nat) : Stp := .jn q.1 q.2
abbrev sp_Change_joining_steps (A : Ad) : Sp := sp1 fun x H Q => ∃ p n par f g R, x = .ref p ∧ ChangeAt A H p n par f g R ∧ Valid n par g ∧ ∀ l H' (xs : List (Int × Nat)) (G r : Arr), Same H H' → H l = none → StL H' l (xs.reverse.map jnOf) → IsG n par R G → Lje n par g xs r → (∀ z, z ∈ xs.map (·.1) ↔ Ppl g z ∧ ¬ Ppl G z) → xs.length ≤ 8 → Q (.ref l) H'
theorem g_Change_joining_steps (T : Fx K mg A) : Mf P w K mg base 3 (IsC A) "joining_steps" ["self"] (sp_Change_joining_steps A) := by
  refine mf1 T.d_Change_joining_steps sc_Change_joining_steps (fun _ _ _ _ _ _ us hl => match us, hl with | [_], _ => rfl) ?_
  rintro v1 f cdv A' outer s E H Q hr ⟨p, n, par, g, h, R, rfl, hp, vh, q⟩
  refine ⟨_, (pss_cons (ps_set (i := 1) sc_Change_joining_steps.nd rfl (by first | exact Or.inl rfl | exact Or.inr rfl) (pe_m0 (g_Change_staying T) rfl T.cl_C hr (pv 0) ))
      (pss_cons (ps_set (i := 2) sc_Change_joining_steps.nd rfl (by first | exact Or.inl rfl | exact Or.inr rfl) (pe_callTy call_list_of (by rfl) T.b_list (by decide +kernel) (pa_cons (pe_fld (pv 0) rfl) pa_nil)))
      (pss_cons (ps_set (i := 3) sc_Change_joining_steps.nd rfl (by first | exact Or.inl rfl | exact Or.inr rfl) (pe_lst pa_nil))
      (pss_cons (ps_for PassesOwn.never rfl (pi_list (pe_callBK (cr_sortedRev (b := true)) (by rfl) T.b_sorted (by decide +kernel) (pa_cons (pe_lock (pe_lc (own := [("person", 4)]) (g := gName 4) rfl sc_Change_joining_steps.nd (pi_keys (pe_fld (pv 0) rfl)) (blkOk_by (N := ["self", "staying", "rows", "steps", "person"]) (sc := defScope s_Change_joining_steps) (by decide +kernel)) (fun _ _ _ _ _ => pg_name (i := 4) sc_Change_joining_steps.nd rfl (by first | exact Or.inl rfl | exact Or.inr rfl)) (fun _ _ _ _ _ => (pts_one (pt_cmpR (ninK K) (pv 4) (pv 1) (by rfl)))) (fun _ _ _ _ _ => (pv 4)))) pa_nil) (pk_cons pe_bl pk_nil))) (pg_name (i := 4) sc_Change_joining_steps.nd rfl (by first | exact Or.inl rfl | exact Or.inr rfl))
      (pss_one (ps_expr (pe_bm PySem.F.plainAttrs_list PySem.F.slot_list_append PySem.F.type_list_append mt_append (pv 3) (pa_cons (pe_tup (pa_cons pe_str (pa_cons (pv 4) (pa_cons (pe_g (g_leave_one T) hr (pa_cons (pe_fld (pv 0) rfl) (pa_cons (pv 2) (pa_cons (pv 4) pa_nil)))) pa_nil)))) pa_nil)))))
      (pss_one (ps_ret (pe_revL (pv 3)))))))), ?_⟩
  obtain ⟨⟨dx, t, b, a, st, e, r, rs, h1, h2, h3, h4, h5, h6, h7, h8, h9⟩, h10⟩ := id hp
  have ok := h2.ok
  have n8 := ok.le
  have pl := ppl_len (f := h) (n := n)
  refine ⟨_, rfl, p, dx, _, rfl, h1, fC_m2 _ _ _ _ _ _, p, n, par, g, h, R, rfl, hp, fun sl H1 S G s1 eS iG mS lS => ?_⟩
  refine ⟨_, rfl, p, _, dx, _, _, rfl, s1 _ _ h1, T.cl_C, T.n_C_after, fC_after _ _ _ _ _ _, a, _, rfl, .inr (SqT.of (s1 _ _ h4)), fun r0 nr0 => ?_⟩
  obtain ⟨H2, eH2⟩ : ∃ H2, H2 = upd H1 r0 (.lst (arV n h)) := ⟨_, rfl⟩
  rw [← eH2]
  have s2 : Same H1 H2 := by rw [eH2]; exact Same.new nr0
  have er0 : H2 r0 = some (.lst (arV n h)) := by rw [eH2]; exact upd_same
  have hr0 : H r0 = none := s1.free nr0
  have rw0 : Rw A H2 t r0 n par h := ⟨⟨H1, h2.same s1, s2, nr0⟩, er0⟩
  clear eH2
  refine ⟨Nat.zero_le _, fun sp nsp => ?_⟩
  obtain ⟨H3, eH3⟩ : ∃ H3, H3 = upd H2 sp (.lst []) := ⟨_, rfl⟩
  rw [← eH3]
  have s3 : Same H2 H3 := by rw [eH3]; exact Same.new nsp
  have esp : H3 sp = some (.lst []) := by rw [eH3]; exact upd_same
  have spr : sp ≠ r0 := (ne_of_none er0 nsp).symm
  have hsp : H sp = none := s1.free (s2.free nsp)
  clear eH3
  have s13 : Same H H3 := Same.tr s1 (Same.tr s2 s3)
  have rw3 := rw0.next (Kp.same s3) (s3 _ _ er0)
  have st3 := s13 _ _ h6
  refine ⟨e, _, st3, trivial, fun od => ?_⟩
  obtain ⟨HL, eHL⟩ : ∃ HL, HL = upd H3 e (.frz od (.dK (pk h n))) := ⟨_, rfl⟩
  rw [← eHL]
  have pe : p ≠ e := ne_of h1 h6 (by intro z; cases z)
  have lp := h1
  have lp : HL p = some (.ins A.C dx (fC (.ref t) (.ref b) (.ref a) (.ref st) (.ref e) (.ref r))) := by rw [eHL, upd_ne pe]; exact s13 _ _ h1
  have le' : HL e = some (.frz od (.dK (pk h n))) := by rw [eHL]; exact upd_same
  have se : sl ≠ e := ne_of (Same.tr s2 s3 _ _ eS) st3 (by intro z; cases z)
  have lS' : HL sl = some (.lst (S.map V.int)) := by rw [eHL, upd_ne se]; exact Same.tr s2 s3 _ _ eS
  refine ⟨_, rfl, p, _, dx, _, _, rfl, lp, T.cl_C, T.n_C_ends, fC_ends _ _ _ _ _ _, e, od, rfl, .inl ⟨_, le', fun D2 hD2 => ?_⟩⟩
  refine lc_it walk_keys (fun i H' => Same HL H' ∧ H' D2 = some (.lst ((without S (((pk h n).take i).map keyI)).map V.int)))
    ⟨Same.new hD2, upd_same⟩ (fun i H' _ x => x.1 _ _ le') ?_ ?_
  · rintro i x Ha Hb hi ⟨sm, q1⟩ ⟨rfl, kk, v, ek, rfl⟩
    obtain ⟨z, k0, ekz, gk, kn⟩ := mem_pk (List.mem_of_getElem? ek)
    cases ekz
    have et : ((pk h n).take (i + 1)).map keyI = ((pk h n).take i).map keyI ++ [z] := by rw [List.take_add_one, ek, List.map_append]; rfl
    refine ⟨rfl, _, rfl, _, rfl, sl, _, rfl, .inl (SqL.of (sm _ _ lS')), rfl, flat_ints, _, rfl, ?_⟩
    rw [et, without_snoc]
    by_cases c : z ∈ S
    · rw [if_pos c, List.append_nil]
      refine ifF ?_ ⟨sm, q1⟩
      show (!inV (.int z) (S.map V.int)) = false
      rw [inV_ints, decide_eq_true c]; rfl
    · rw [if_neg c]
      refine ifT ?_ ?_
      · show (!inV (.int z) (S.map V.int)) = true
        rw [inV_ints, decide_eq_false c]; rfl
      refine ⟨_, rfl, _, q1, ?_, fun x o e => by rw [upd_ne (ne_of_none e hD2)]; exact sm _ _ e, ?_⟩
      · rw [List.length_map]
        have := pk_len (f := h) (i := n)
        exact small1000 (Nat.le_trans (List.length_filter_le _ _) (by rw [List.length_map, List.length_take]; omega))
      · rw [upd_same, List.map_append]; rfl
  rintro Ha ⟨smL, hL⟩
  rw [List.take_length] at hL
  have ekeys : (pk h n).map keyI = ppl h n := by
    have h1 : (pk h n).map keyI = ((pk h n).map (·.1)).map (fun k => match k with | Sum.inl z => z | Sum.inr _ => 0) := by rw [List.map_map]; rfl
    rw [h1, pk_keys, List.map_map]
    exact List.map_id _
  rw [ekeys] at hL
  refine ⟨smL _ _ le', ?_⟩
  have s4 : Same H3 (upd Ha e (.dK (pk h n))) := fun x o ex => by
    by_cases c : x = e
    · subst c; rw [st3] at ex; rw [upd_same]; exact ex
    · rw [upd_ne c]; exact smL _ _ (by rw [eHL, upd_ne c]; exact ex)
  have D2d : D2 ≠ e := fun z => by subst z; rw [le'] at hD2; cases hD2
  refine ⟨D2, without S (ppl h n), rfl, rfl, SqL.of (by rw [upd_ne D2d]; exact hL), fun ys yl perm rising nyl => ?_⟩
  obtain ⟨H4, eH4⟩ : ∃ H4, H4 = upd (upd Ha e (.dK (pk h n))) yl (.lst (ys.map V.int)) := ⟨_, rfl⟩
  rw [← eH4]
  have s34 : Same H3 H4 := Same.tr s4 (by rw [eH4]; exact Same.new nyl)
  have ey : H4 yl = some (.lst (ys.map V.int)) := by rw [eH4]; exact upd_same
  have nyr : yl ≠ r0 := fun z => by subst z; rw [s4 _ _ (s3 _ _ er0)] at nyl; cases nyl
  have nys : yl ≠ sp := fun z => by subst z; rw [s4 _ _ esp] at nyl; cases nyl
  clear eH4 eHL
  have yn : ys.length ≤ 8 := by rw [perm.length_eq]; exact Nat.le_trans (List.length_filter_le _ _) (by omega)
  have ynd : ys.Nodup := perm.nodup_iff.mpr (List.Nodup.sublist List.filter_sublist (ppl_nodup vh.inj n))
  have ymem : ∀ z, z ∈ ys ↔ Ppl h z ∧ ¬ Ppl G z := fun z => by rw [perm.mem_iff, mem_without, mem_pplV vh, mS]
  have s14 := Same.tr s13 s34
  have rw4 := rw3.next (Kp.same s34) (s34 _ _ rw3.at_)
  refine ⟨yl, rfl, ⟨_, SqL.of ey⟩, ?_⟩
  refine for_it walk_list (fun i σ H' => (∃ u, σ = [some (.ref p), some (.ref sl), some (.ref r0), some (.ref sp), u]) ∧ Same H H' ∧ H' yl = some (.lst (ys.map V.int)) ∧ ∃ (h' : Arr) (l : List (Int × Nat)) (ps : List Addr), Rw A H' t r0 n par h' ∧ Lje n par h l h' ∧ l.map (·.1) = ys.take i ∧ H' sp = some (.lst (ps.map V.ref)) ∧ Paired (StAt H') ps (l.map jnOf))
    ⟨⟨_, rfl⟩, s14, ey, h, [], [], rw4, rfl, rfl, s34 _ _ esp, .nil⟩ (fun i σ H' _ x => SqL.of x.2.2.1) ?_ ?_
  · rintro i x σ H5 H6 hi ⟨⟨u, rfl⟩, sm, ey5, h', l, ps, rw5, lj, el, e5, pr⟩ ⟨rfl, ex⟩
    rw [List.getElem?_map] at ex
    obtain ⟨z, hz, rfl⟩ := Option.map_eq_some_iff.mp ex
    have hzm := List.mem_of_getElem? hz
    have nz : z ∉ ys.take i := by
      intro hm
      have s : ys.take (i + 1) = ys.take i ++ [z] := by rw [List.take_add_one, hz]; rfl
      have := List.Nodup.sublist (List.take_sublist (i + 1) _) ynd
      rw [s, List.nodup_append] at this
      exact this.2.2 z hm z (by simp) rfl
    obtain ⟨v1, p1, _⟩ := lj.val vh
    obtain ⟨k, hk⟩ := (p1 z).mpr ⟨((ymem z).mp hzm).1, by rw [el]; exact nz⟩
    have ll : l.length ≤ 8 := by
      have := congrArg List.length el
      rw [List.length_map, List.length_take] at this; omega
    have pll := paired_len pr
    rw [List.length_map] at pll
    refine ⟨_, rfl, .inl ⟨rfl, _, SqL.of e5⟩, ?_⟩
    refine ⟨_, rfl, _, rfl, p, _, dx, _, _, rfl, sm _ _ h1, T.cl_C, T.n_C_tree, fC_tree _ _ _ _ _ _, _, rfl, _, rfl, t, r0, n, par, h', z, k, rfl, rfl, rfl, rw5, v1, hk, fun H7 e' h'' lv kp e7 => ?_⟩
    have rw7 := rw5.next kp e7
    have f5 : H7 sp = some (.lst (ps.map V.ref)) := kp _ _ spr e5
    have ey7 := kp _ _ nyr ey5
    refine ⟨by show 3 ≤ sizeLine; decide, fun x hx => ?_⟩
    have xsp : x ≠ sp := (ne_of_none f5 hx).symm
    have xr0 : x ≠ r0 := (ne_of_none e7 hx).symm
    have s78 : Same H7 (upd H7 x (.tup [.str "join", .int z, .int (e' : Nat)])) := Same.new hx
    refine ⟨sp, _, _, rfl, rfl, s78 _ _ f5, by rw [List.length_map]; exact small1000 (by omega), ?_⟩
    have s79 : Kp sp H7 (upd (upd H7 x (.tup [.str "join", .int z, .int (e' : Nat)])) sp (.lst (ps.map V.ref ++ [.ref x]))) := Kp.tr (Kp.same s78) Kp.upd_
    refine ⟨⟨_, rfl⟩, fun b o eb => s79 _ _ (ne_of_none eb hsp) (kp _ _ (ne_of_none eb hr0) (sm _ _ eb)), s79 _ _ nys ey7, h'', l ++ [(z, e')], ps ++ [x], ?_, lj.snoc ⟨k, hk⟩ lv, ?_, ?_, ?_⟩
    · exact ⟨⟨H, h2, fun b o eb => s79 _ _ (ne_of_none eb hsp) (kp _ _ (ne_of_none eb hr0) (sm _ _ eb)), hr0⟩, s79 _ _ spr.symm e7⟩
    · rw [List.map_append, el, List.take_add_one, hz]; rfl
    · rw [upd_same, List.map_append]; rfl
    · rw [List.map_append]
      have tsp : ∀ {b us}, H7 b = some (.tup us) → b ≠ sp := fun {b us} eb => ne_of eb f5 (by intro z; cases z)
      refine paired_append (paired_up pr fun b xx hb => hb.keep fun us hu => ?_) (.cons ?_ .nil)
      · have b0 : b ≠ r0 := ne_of hu rw5.at_ (by intro z; cases z)
        have b1 := kp _ _ b0 hu
        exact s79 _ _ (tsp b1) b1
      · show upd _ _ _ x = _
        rw [upd_ne xsp, upd_same]
  · rintro σ H5 ⟨⟨u, rfl⟩, sm, ey5, h', l, ps, rw5, lj, el, e5, pr⟩
    rw [List.length_map, List.take_length] at el
    refine ⟨_, rfl, sp, _, rfl, SqL.of e5, fun o no => ?_⟩
    refine q o _ l G h' (Same.tr sm (Same.new no)) (sm.free no) ⟨ps.reverse, by rw [upd_same, List.map_reverse], ?_⟩ iG lj (fun z => by rw [el]; exact ymem z) (by have := congrArg List.length el; rw [List.length_map] at this; omega)
    rw [List.map_reverse]
    exact paired_up (paired_rev pr) fun b xx hb => hb.same (Same.new no)
/-! ### plan -/
abbrev sp_Change_plan (A : Ad) : Sp := sp1 fun x H Q => ∃ p n par f g R, x = .ref p ∧ ChangeAt A H p n par f g R ∧ Valid n par f ∧ Valid n par g ∧ ∀ l H' (ss : List Stp), Same H H' → H l = none → StL H' l ss → PlaysTo n par f ss g → ss.length ≤ 100 → Q (.ref l) H'
theorem g_Change_plan (T : Fx K mg A) : Mf P w K mg base 4 (IsC A) "plan" ["self"] (sp_Change_plan A) := by
  refine mf1 T.d_Change_plan sc_Change_plan (fun _ _ _ _ _ _ us hl => match us, hl with | [_], _ => rfl) ?_
  rintro v1 f cdv A' outer s E H Q hr ⟨p, n, par, g, h, R, rfl, hp, vg, vh, q⟩
  refine ⟨_, (pss_one (ps_ret (pe_op op_cat (pe_m0 (g_Change_leaving_steps T) rfl T.cl_C hr (pv 0) ) (pe_m0 (g_Change_joining_steps T) rfl T.cl_C hr (pv 0) )))), ?_⟩
  obtain ⟨⟨dx, t, b, a, st, e, r, rs, h1, h2, h3, h4, h5, h6, h7, h8, h9⟩, h10⟩ := id hp
  have ok := h2.ok
  have n8 := ok.le
  refine ⟨_, rfl, p, dx, _, rfl, h1, fC_m3 _ _ _ _ _ _, p, n, par, g, h, R, rfl, hp, vg, fun l1 H1 xs G s1 st1 iG mx ndx lx => ?_⟩
  refine ⟨_, rfl, p, dx, _, rfl, s1 _ _ h1, fC_m4 _ _ _ _ _ _, p, n, par, g, h, R, rfl, hp.same s1, vh, fun l2 H2 ys G2 rr s2 nl2 st2 iG2 lj my ly8 => ?_⟩
  have := iG2.uniq ok iG
  subst this
  obtain ⟨ps1, a1, a2⟩ := st1.same s2
  obtain ⟨ps2, b1, b2⟩ := st2
  have vG : Valid n par G2 := iG2.valid vg h10
  obtain ⟨r1, lv⟩ := Lvs.exists_ ok vg ndx fun x hx => ((mx x).mp hx).1
  have ly : Lvs n par h (ys.map (·.1)) rr := ⟨ys, rfl, lj⟩
  have e12 : r1 = rr := meet ok (S := fun z => Ppl G2 z) vg vh vG (fun z => Iff.rfl)
    (fun k z hk => by obtain ⟨⟨i, a, b⟩, _⟩ := h10 k z (iG2.mem hk); exact ⟨i, a, b⟩)
    (fun k z hk => by obtain ⟨_, i, a, b⟩ := h10 k z (iG2.mem hk); exact ⟨i, a, b⟩) mx my lv ly
  subst e12
  have pt : PlaysTo n par g (xs.map .lv ++ ys.reverse.map jnOf) h := lv.plays.append (lj.back ok vh)
  have l1' : ps1.length = xs.length := by rw [paired_len a2, List.length_map]
  have ynd : (ys.map (·.1)).length ≤ 8 := by rw [List.length_map]; exact ly8
  have l2' : ps2.length ≤ 8 := by rw [paired_len b2, List.length_map, List.length_reverse]; rwa [List.length_map] at ynd
  refine ⟨l1, l2, _, _, rfl, rfl, a1, b1, by rw [List.length_map, List.length_map]; exact Nat.le_of_lt (small1000 (by omega)), fun o no => ?_⟩
  refine q o _ _ (Same.tr s1 (Same.tr s2 (Same.new no))) (s1.free (s2.free no)) ⟨ps1 ++ ps2, by rw [upd_same, List.map_append], paired_append (paired_up a2 fun b x hb => hb.same (Same.new no)) (paired_up b2 fun b x hb => hb.same (Same.new no))⟩ pt ?_
  rw [List.length_append, List.length_map, List.length_map, List.length_reverse]
  rw [List.length_map] at ynd
  omega
abbrev sp_change_of (A : Ad) : Sp := sp3 fun x y z H Q => ∃ c b a n par f g, x = .ref c ∧ y = .ref b ∧ z = .ref a ∧ H c = some (.tup (chV n par)) ∧ H b = some (.tup (arV n f)) ∧ H a = some (.tup (arV n g)) ∧ TreeOk n par ∧ Valid n par f ∧ Valid n par g ∧
  ∀ p H' R, Same H H' → ChangeAt A H' p n par f g R → Q (.ref p) H'
theorem g_change_of (T : Fx K mg A) : Gf P w K mg base 5 "change_of" ["chart", "before", "after"] (sp_change_of A) := by
  refine gf3 T.d_change_of sc_change_of (fun _ _ _ _ _ _ us hl => match us, hl with | [_, _, _], _ => rfl) ?_
  rintro v1 v2 v3 f cdv A' outer s E H Q hr ⟨c, b, a, n, par, g, h, rfl, rfl, rfl, hc, hb, ha, ok, vg, vh, q⟩
  refine ⟨_, (pss_cons (ps_expr (pe_g (g_require_chart T) hr (pa_cons (pv 0) pa_nil)))
      (pss_cons (ps_expr (pe_g (g_require_arrangement T) hr (pa_cons (pv 0) (pa_cons (pv 1) pa_nil))))
      (pss_cons (ps_expr (pe_g (g_require_arrangement T) hr (pa_cons (pv 0) (pa_cons (pv 2) pa_nil))))
      (pss_one (ps_ret (pe_mk (g_Change_init T) hr (pa_cons (pv 0) (pa_cons (pv 1) (pa_cons (pv 2) pa_nil))))))))), ?_⟩
  refine ⟨_, rfl, c, n, par, rfl, hc, ok, fun H1 s1 => ?_⟩
  refine ⟨_, rfl, _, rfl, c, b, n, par, g, rfl, rfl, s1 _ _ hc, s1 _ _ hb, ok, vg, fun H2 s2 => ?_⟩
  have s2 := Same.tr s1 s2
  refine ⟨_, rfl, _, rfl, c, a, n, par, h, rfl, rfl, s2 _ _ hc, s2 _ _ ha, ok, vh, fun H3 s3 => ?_⟩
  have s3 := Same.tr s2 s3
  refine ⟨_, rfl, _, rfl, _, rfl, fun p dx hp hdx hne => ⟨p, dx, c, b, a, n, par, g, h, rfl, rfl, rfl, rfl, upd_same, mk1 (s3 _ _ hc) hp hdx, mk1 (s3 _ _ hb) hp hdx, mk1 (s3 _ _ ha) hp hdx, ok, vg, vh, fun H4 R k4 ch => ⟨rfl, ?_⟩⟩⟩
  exact q p H4 R (Same.tr s3 (mk2 hp hdx k4)) ch
abbrev sp_fewest_changes : Sp := sp3 fun x y z H Q => ∃ c b a n par f g, x = .ref c ∧ y = .ref b ∧ z = .ref a ∧ H c = some (.tup (chV n par)) ∧ H b = some (.tup (arV n f)) ∧ H a = some (.tup (arV n g)) ∧ TreeOk n par ∧ Valid n par f ∧ Valid n par g ∧
  ∀ l H' (ss : List Stp), Same H H' → H l = none → StL H' l ss → PlaysTo n par f ss g → ss.length ≤ 100 → Q (.ref l) H'
theorem g_fewest_changes (T : Fx K mg A) : Gf P w K mg base 6 "fewest_changes" ["chart", "before", "after"] (sp_fewest_changes) := by
  refine gf3 T.d_fewest_changes sc_fewest_changes (fun _ _ _ _ _ _ us hl => match us, hl with | [_, _, _], _ => rfl) ?_
  rintro v1 v2 v3 f cdv A' outer s E H Q hr ⟨c, b, a, n, par, g, h, rfl, rfl, rfl, hc, hb, ha, ok, vg, vh, q⟩
  refine ⟨_, (pss_one (ps_ret (pe_m0 (g_Change_plan T) rfl T.cl_C hr (pe_g (g_change_of T) hr (pa_cons (pv 0) (pa_cons (pv 1) (pa_cons (pv 2) pa_nil)))) ))), ?_⟩
  refine ⟨_, rfl, _, rfl, _, rfl, c, b, a, n, par, g, h, rfl, rfl, rfl, hc, hb, ha, ok, vg, vh, fun p H1 R s1 ch => ?_⟩
  obtain ⟨⟨dx, t, b, a, st, e, r, rs, h1, h2, h3, h4, h5, h6, h7, h8, h9⟩, h10⟩ := id ch
  exact ⟨p, dx, _, rfl, h1, fC_m5 _ _ _ _ _ _, p, n, par, g, h, R, rfl, ch, vg, vh, fun l H2 ss s2 nl sl pt ll => q l H2 ss (Same.tr s1 s2) (s1.free nl) sl pt ll⟩
end MV
end

section
set_option Elab.async false
set_option autoImplicit false
set_option linter.all false
set_option maxRecDepth 100000
set_option maxHeartbeats 4000000
namespace MV
open PySem PySem.Spec PyProof.Rows L2 L3 MU PySem.W
variable {P : Program} {w : World} {K : PySem.W.Frag} {mg : Str → Option Value} {base : Heap} {A : Ad}
/-! ### the fields -/
abbrev fO1 (a : V) : List (Str × V) := [("above", a)]
abbrev fO2 (a b : V) : List (Str × V) := [("above", a), ("now", b)]
abbrev fO3 (a b l : V) : List (Str × V) := [("above", a), ("now", b), ("past", l)]
abbrev fO (a b l d : V) : List (Str × V) := [("above", a), ("now", b), ("past", l), ("done", d)]
theorem fO_1 (a : V) : putF "above" a [] = fO1 a := rfl
theorem fO_2 (a b : V) : putF "now" b (fO1 a) = fO2 a b := by kernel_rfl
theorem fO_3 (a b l : V) : putF "past" l (fO2 a b) = fO3 a b l := by kernel_rfl
theorem fO_4 (a b l d : V) : putF "done" d (fO3 a b l) = fO a b l d := by kernel_rfl
theorem fO_now (a b l d x : V) : putF "now" x (fO a b l d) = fO a x l d := by kernel_rfl
theorem fO_past (a b l d x : V) : putF "past" x (fO a b l d) = fO a b x d := by kernel_rfl
theorem fO_done (a b l d x : V) : putF "done" x (fO a b l d) = fO a b l x := by kernel_rfl
theorem lO_above (a b l d : V) : (fO a b l d).lookup ("above" : Str) = some a := by kernel_rfl
theorem lO_now (a b l d : V) : (fO a b l d).lookup ("now" : Str) = some b := by kernel_rfl
theorem lO_past (a b l d : V) : (fO a b l d).lookup ("past" : Str) = some l := by kernel_rfl
theorem lO_done (a b l d : V) : (fO a b l d).lookup ("done" : Str) = some d := by kernel_rfl
theorem lO_put (a b l d : V) : (fO a b l d).lookup ("put" : Str) = none := by kernel_rfl
theorem lO_leave (a b l d : V) : (fO a b l d).lookup ("leave" : Str) = none := by kernel_rfl
theorem lO_play (a b l d : V) : (fO a b l d).lookup ("play" : Str) = none := by kernel_rfl
theorem lO_undo (a b l d : V) : (fO a b l d).lookup ("undo" : Str) = none := by kernel_rfl
theorem lO_preview (a b l d : V) : (fO a b l d).lookup ("preview" : Str) = none := by kernel_rfl
theorem lO_rehearse (a b l d : V) : (fO a b l d).lookup ("rehearse" : Str) = none := by kernel_rfl
theorem lO_log (a b l d : V) : (fO a b l d).lookup ("log" : Str) = none := by kernel_rfl
theorem lO_admit (a b l d : V) : (fO a b l d).lookup ("admit" : Str) = none := by kernel_rfl
structure OffC (K : PySem.W.Frag) (C : Addr) : Prop where
  cl : Cls K C
  above : NoAttr K C "above"
  now : NoAttr K C "now"
  past : NoAttr K C "past"
  done : NoAttr K C "done"
theorem Fx.off (T : Fx K mg A) {C : Addr} (h : IsO A C) : OffC K C := by
  rcases h with rfl | rfl
  · exact ⟨T.cl_O, T.n_O_above, T.n_O_now, T.n_O_past, T.n_O_done⟩
  · exact ⟨T.cl_S, T.n_S_above, T.n_S_now, T.n_S_past, T.n_S_done⟩
abbrev fR1 (o : V) : List (Str × V) := [("office", o)]
abbrev fR2 (o b : V) : List (Str × V) := [("office", o), ("now", b)]
abbrev fR3 (o b l : V) : List (Str × V) := [("office", o), ("now", b), ("past", l)]
abbrev fR (o b l d : V) : List (Str × V) := [("office", o), ("now", b), ("past", l), ("done", d)]
theorem fR_1 (a : V) : putF "office" a [] = fR1 a := rfl
theorem fR_2 (a b : V) : putF "now" b (fR1 a) = fR2 a b := by kernel_rfl
theorem fR_3 (a b l : V) : putF "past" l (fR2 a b) = fR3 a b l := by kernel_rfl
theorem fR_4 (a b l d : V) : putF "done" d (fR3 a b l) = fR a b l d := by kernel_rfl
theorem fR1_office (a : V) : (fR1 a).lookup ("office" : Str) = some a := by kernel_rfl
theorem lR_office (a b l d : V) : (fR a b l d).lookup ("office" : Str) = some a := by kernel_rfl
theorem lR_now (a b l d : V) : (fR a b l d).lookup ("now" : Str) = some b := by kernel_rfl
theorem lR_past (a b l d : V) : (fR a b l d).lookup ("past" : Str) = some l := by kernel_rfl
theorem lR_done (a b l d : V) : (fR a b l d).lookup ("done" : Str) = some d := by kernel_rfl
/-! ### Trial -/
abbrev sp_Trial_init (A : Ad) : Sp := sp2 fun x y H Q => ∃ t dx o C dxo a b l d, x = .ref t ∧ y = .ref o ∧ H t = some (.ins A.R dx []) ∧ IsO A C ∧ H o = some (.ins C dxo (fO a b l d)) ∧
  ∀ H', (∀ x u, x ≠ t → H x = some u → H' x = some u) → H' t = some (.ins A.R dx (fR (.ref o) b l d)) → Q .non H'
theorem g_Trial_init (T : Fx K mg A) : Cf P w K mg base 1 "Trial" A.R ["self", "office"] (sp_Trial_init A) := by
  refine cf2 T.d_Trial_init sc_Trial_init (fun _ _ _ _ _ _ us hl => match us, hl with | [_, _], _ => rfl) ?_
  rintro v1 v2 f cdv A' outer s E H Q hr ⟨t, dx, o, C, dxo, a, b, l, d, rfl, rfl, ht, io, ho, q⟩
  refine ⟨_, (pss_cons (ps_fld (pv 0) (pv 1) rfl)
      (pss_one (ps_asg (pe_tup (pa_cons (pe_fld (pv 1) rfl) (pa_cons (pe_fld (pv 1) rfl) (pa_cons (pe_fld (pv 1) rfl) pa_nil)))) (pg_tup rfl (pgs_cons (pg_fld (pv 0)) (pgs_cons (pg_fld (pv 0)) (pgs_cons (pg_fld (pv 0)) pgs_nil))))))), ?_⟩
  have c := T.off io
  have ot : o ≠ t := fun z => by subst z; rw [ht] at ho; cases ho
  refine ⟨_, rfl, _, rfl, t, _, dx, _, rfl, ht, T.cl_R, T.n_R_office, (by show 0 < 1000; decide), ?_⟩
  rw [fR_1]
  have h1 : upd H t (.ins A.R dx (fR1 (.ref o))) o = some (.ins C dxo (fO a b l d)) := by rw [upd_ne ot]; exact ho
  refine ⟨_, rfl, o, C, dxo, _, _, rfl, h1, c.cl, c.now, lO_now _ _ _ _, _, rfl, o, C, dxo, _, _, rfl, h1, c.cl, c.past, lO_past _ _ _ _, _, rfl, o, C, dxo, _, _, rfl, h1, c.cl, c.done, lO_done _ _ _ _, by show 3 ≤ sizeLine; decide, fun p hp => ?_⟩
  have tp : t ≠ p := ne_of_none upd_same hp
  refine ⟨p, _, rfl, SqT.of upd_same, rfl, _, _, rfl, ?_⟩
  refine ⟨_, rfl, t, A.R, dx, _, rfl, (upd_ne tp).trans upd_same, T.cl_R, T.n_R_now, (by show 1 < 1000; decide), ?_⟩
  rw [fR_2]
  refine ⟨_, _, rfl, _, rfl, t, A.R, dx, _, rfl, upd_same, T.cl_R, T.n_R_past, (by show 2 < 1000; decide), ?_⟩
  rw [fR_3]
  refine ⟨_, _, rfl, _, rfl, t, A.R, dx, _, rfl, upd_same, T.cl_R, T.n_R_done, (by show 3 < 1000; decide), rfl, ?_⟩
  rw [fR_4]
  refine q _ (fun x u hx e => ?_) upd_same
  have e1 : upd H t (.ins A.R dx (fR1 (.ref o))) x = some u := by rw [upd_ne hx]; exact e
  rw [upd_ne hx, upd_ne hx, upd_ne hx, upd_ne (ne_of_none e1 hp)]
  exact e1
abbrev sp_Trial_enter (A : Ad) : Sp := sp1 fun x H Q => ∃ t dx o C dxo c b l d us vs, x = .ref t ∧ H t = some (.ins A.R dx (fR (.ref o) b (.ref l) (.ref d))) ∧ IsO A C ∧ H o = some (.ins C dxo (fO c b (.ref l) (.ref d))) ∧ H l = some (.lst us) ∧ H d = some (.lst vs) ∧
  ∀ l2 d2 H', H l2 = none → H d2 = none → l2 ≠ d2 → Kp o H H' → H' o = some (.ins C dxo (fO c b (.ref l2) (.ref d2))) → H' l2 = some (.lst us) → H' d2 = some (.lst vs) → Q (.ref o) H'
theorem g_Trial_enter (T : Fx K mg A) : Mf P w K mg base 1 (IsR A) "__enter__" ["self"] (sp_Trial_enter A) := by
  refine mf1 T.d_Trial_enter sc_Trial_enter (fun _ _ _ _ _ _ us hl => match us, hl with | [_], _ => rfl) ?_
  rintro v1 f cdv A' outer s E H Q hr ⟨t, dx, o, C, dxo, cc, b, l, d, us, vs, rfl, ht, io, ho, hl, hd, q⟩
  refine ⟨_, (pss_cons (ps_fld (pe_fld (pv 0) rfl) (pe_callTy call_list_of (by rfl) T.b_list (by decide +kernel) (pa_cons (pe_fld (pv 0) rfl) pa_nil)) rfl)
      (pss_cons (ps_fld (pe_fld (pv 0) rfl) (pe_callTy call_list_of (by rfl) T.b_list (by decide +kernel) (pa_cons (pe_fld (pv 0) rfl) pa_nil)) rfl)
      (pss_one (ps_ret (pe_fld (pv 0) rfl))))), ?_⟩
  have c := T.off io
  have cR := T.cl_R
  refine ⟨_, rfl, t, A.R, dx, _, _, rfl, ht, T.cl_R, T.n_R_past, lR_past _ _ _ _, l, _, rfl, .inl (SqL.of hl), fun l2 n2 => ?_⟩
  have s1 : Same H (upd H l2 (.lst us)) := Same.new n2
  refine ⟨_, rfl, t, A.R, dx, _, _, rfl, s1 _ _ ht, T.cl_R, T.n_R_office, lR_office _ _ _ _, o, C, dxo, _, rfl, s1 _ _ ho, c.cl, c.past, (by show 4 < 1000; decide), ?_⟩
  rw [fO_past]
  have to : t ≠ o := fun z => by subst z; rw [ht] at ho; cases ho
  have lo : l ≠ o := ne_of hl ho (by intro z; cases z)
  have do_ : d ≠ o := ne_of hd ho (by intro z; cases z)
  have l2o : l2 ≠ o := (ne_of_none ho n2).symm
  obtain ⟨H2, eH2⟩ : ∃ H2, H2 = upd (upd H l2 (.lst us)) o (.ins C dxo (fO cc b (.ref l2) (.ref d))) := ⟨_, rfl⟩
  rw [← eH2]
  have k2 : Kp o H H2 := by rw [eH2]; exact Kp.tr (Kp.same s1) Kp.upd_
  have e2 : H2 o = some (.ins C dxo (fO cc b (.ref l2) (.ref d))) := by rw [eH2]; exact upd_same
  have el2 : H2 l2 = some (.lst us) := by rw [eH2, upd_ne l2o]; exact upd_same
  clear eH2
  refine ⟨_, rfl, t, A.R, dx, _, _, rfl, k2 _ _ to ht, T.cl_R, T.n_R_done, lR_done _ _ _ _, d, _, rfl, .inl (SqL.of (k2 _ _ do_ hd)), fun d2 nd2 => ?_⟩
  have s3 : Same H2 (upd H2 d2 (.lst vs)) := Same.new nd2
  have d2o : d2 ≠ o := (ne_of_none e2 nd2).symm
  refine ⟨_, rfl, t, A.R, dx, _, _, rfl, s3 _ _ (k2 _ _ to ht), T.cl_R, T.n_R_office, lR_office _ _ _ _, o, C, dxo, _, rfl, s3 _ _ e2, c.cl, c.done, (by show 4 < 1000; decide), ?_⟩
  rw [fO_done]
  have hd2 : H d2 = none := by
    cases e : H d2 with
    | none => rfl
    | some u => rw [k2 _ _ d2o e] at nd2; cases nd2
  have l2d2 : l2 ≠ d2 := ne_of_none el2 nd2
  have k4 : Kp o H (upd (upd H2 d2 (.lst vs)) o (.ins C dxo (fO cc b (.ref l2) (.ref d2)))) := Kp.tr k2 (Kp.tr (Kp.same s3) Kp.upd_)
  refine ⟨_, rfl, t, A.R, dx, _, _, rfl, k4 _ _ to ht, T.cl_R, T.n_R_office, lR_office _ _ _ _, ?_⟩
  exact q l2 d2 _ n2 hd2 l2d2 k4 upd_same (by rw [upd_ne l2o]; exact s3 _ _ el2) (by rw [upd_ne d2o]; exact upd_same)
abbrev sp_Trial_exit (A : Ad) : Sp := sp4 fun x _ _ _ H Q => ∃ t dx o C dxo c b l d b2 l2 d2, x = .ref t ∧ H t = some (.ins A.R dx (fR (.ref o) b l d)) ∧ IsO A C ∧ H o = some (.ins C dxo (fO c b2 l2 d2)) ∧
  ∀ H', Kp o H H' → H' o = some (.ins C dxo (fO c b l d)) → Q .non H'
theorem g_Trial_exit (T : Fx K mg A) : Mf P w K mg base 1 (IsR A) "__exit__" ["self", "kind", "value", "trace"] (sp_Trial_exit A) := by
  refine mf4 T.d_Trial_exit sc_Trial_exit (fun _ _ _ _ _ _ us hl => match us, hl with | [_, _, _, _], _ => rfl) ?_
  rintro v1 v2 v3 v4 f cdv A' outer s E H Q hr ⟨t, dx, o, C, dxo, cc, b, l, d, b2, l2, d2, rfl, ht, io, ho, q⟩
  refine ⟨_, (pss_cons (ps_fld (pe_fld (pv 0) rfl) (pe_fld (pv 0) rfl) rfl)
      (pss_cons (ps_fld (pe_fld (pv 0) rfl) (pe_fld (pv 0) rfl) rfl)
      (pss_one (ps_fld (pe_fld (pv 0) rfl) (pe_fld (pv 0) rfl) rfl)))), ?_⟩
  have c := T.off io
  have to : t ≠ o := fun z => by
    subst z; rw [ht] at ho
    have h1 := Option.some.inj ho
    injection h1 with _ _ h3
    cases h3
  refine ⟨_, rfl, t, A.R, dx, _, _, rfl, ht, T.cl_R, T.n_R_now, lR_now _ _ _ _, _, rfl, t, A.R, dx, _, _, rfl, ht, T.cl_R, T.n_R_office, lR_office _ _ _ _, o, C, dxo, _, rfl, ho, c.cl, c.now, (by show 4 < 1000; decide), ?_⟩
  rw [fO_now]
  have t1 : ∀ u, upd H o u t = some (.ins A.R dx (fR (.ref o) b l d)) := fun u => by rw [upd_ne to]; exact ht
  refine ⟨_, rfl, t, A.R, dx, _, _, rfl, t1 _, T.cl_R, T.n_R_past, lR_past _ _ _ _, _, rfl, t, A.R, dx, _, _, rfl, t1 _, T.cl_R, T.n_R_office, lR_office _ _ _ _, o, C, dxo, _, rfl, upd_same, c.cl, c.past, (by show 4 < 1000; decide), ?_⟩
  rw [fO_past]
  have t2 : ∀ u v, upd (upd H o u) o v t = some (.ins A.R dx (fR (.ref o) b l d)) := fun u v => by rw [upd_ne to, upd_ne to]; exact ht
  refine ⟨_, rfl, t, A.R, dx, _, _, rfl, t2 _ _, T.cl_R, T.n_R_done, lR_done _ _ _ _, _, rfl, t, A.R, dx, _, _, rfl, t2 _ _, T.cl_R, T.n_R_office, lR_office _ _ _ _, o, C, dxo, _, rfl, upd_same, c.cl, c.done, (by show 4 < 1000; decide), ?_⟩
  rw [fO_done]
  exact q _ (Kp.tr Kp.upd_ (Kp.tr Kp.upd_ Kp.upd_)) upd_same
end MV
end

section
set_option Elab.async false
set_option autoImplicit false
set_option linter.all false
set_option maxRecDepth 100000
set_option maxHeartbeats 4000000
namespace MV
open PySem PySem.Spec PyProof.Rows L2 L3 MU PySem.W
variable {P : Program} {w : World} {K : PySem.W.Frag} {mg : Str → Option Value} {base : Heap} {A : Ad}
/-! ### Office.__init__, vacant -/
def a_Office_init (A : Ad) : V → V → V → Hp → VK → Prop := fun x y z H Q => ∃ o C dx c b n par f, x = .ref o ∧ y = .ref c ∧ z = .ref b ∧ H o = some (.ins C dx []) ∧ IsO A C ∧ H c = some (.tup (chV n par)) ∧ H b = some (.tup (arV n f)) ∧ TreeOk n par ∧ Valid n par f ∧
  ∀ l d H', H l = none → H d = none → l ≠ d → Kp o H H' → H' o = some (.ins C dx (fO (.ref c) (.ref b) (.ref l) (.ref d))) → H' l = some (.lst []) → H' d = some (.lst []) → Q .non H'
theorem bd_Office_init (T : Fx K mg A) (v1 v2 v3 : V) : Bd P w K mg base 4 ["self", "chart", "arrangement"] "Office.__init__" s_Office_init [v1, v2, v3] (a_Office_init A v1 v2 v3) := by
  rintro f cdv A' outer s E H Q hr ⟨o, C, dx, c, b, n, par, g, rfl, rfl, rfl, ho, io, hc, hb, ok, va, q⟩
  refine ⟨_, (pss_cons (ps_expr (pe_g (g_require_chart T) hr (pa_cons (pv 1) pa_nil)))
      (pss_cons (ps_expr (pe_g (g_require_arrangement T) hr (pa_cons (pv 1) (pa_cons (pv 2) pa_nil))))
      (pss_cons (ps_fld (pv 0) (pv 1) rfl)
      (pss_cons (ps_fld (pv 0) (pv 2) rfl)
      (pss_cons (ps_fld (pv 0) (pe_lst pa_nil) rfl)
      (pss_one (ps_fld (pv 0) (pe_lst pa_nil) rfl))))))), ?_⟩
  have cc := T.off io
  refine ⟨_, rfl, c, n, par, rfl, hc, ok, fun H1 s1 => ?_⟩
  refine ⟨_, rfl, _, rfl, c, b, n, par, g, rfl, rfl, s1 _ _ hc, s1 _ _ hb, ok, va, fun H2 s2 => ?_⟩
  have s2 := Same.tr s1 s2
  refine ⟨_, rfl, _, rfl, o, C, dx, _, rfl, s2 _ _ ho, cc.cl, cc.above, (by show 0 < 1000; decide), ?_⟩
  rw [fO_1]
  refine ⟨_, rfl, _, rfl, o, C, dx, _, rfl, upd_same, cc.cl, cc.now, (by show 1 < 1000; decide), ?_⟩
  rw [fO_2]
  obtain ⟨H3, eH3⟩ : ∃ H3, H3 = upd (upd H2 o (.ins C dx (fO1 (.ref c)))) o (.ins C dx (fO2 (.ref c) (.ref b))) := ⟨_, rfl⟩
  rw [← eH3]
  have k3 : Kp o H H3 := Kp.tr (Kp.same s2) (by rw [eH3]; exact Kp.tr Kp.upd_ Kp.upd_)
  have e3 : H3 o = some (.ins C dx (fO2 (.ref c) (.ref b))) := by rw [eH3]; exact upd_same
  clear eH3
  refine ⟨Nat.zero_le _, fun l nl => ?_⟩
  have ol : o ≠ l := ne_of_none e3 nl
  refine ⟨_, rfl, o, C, dx, _, rfl, (by rw [upd_ne ol]; exact e3), cc.cl, cc.past, (by show 2 < 1000; decide), ?_⟩
  rw [fO_3]
  refine ⟨Nat.zero_le _, fun d nd => ?_⟩
  have od : o ≠ d := ne_of_none upd_same nd
  have ld : l ≠ d := ne_of_none (by rw [upd_ne ol.symm]; exact upd_same) nd
  refine ⟨_, rfl, o, C, dx, _, rfl, (by rw [upd_ne od]; exact upd_same), cc.cl, cc.done, (by show 3 < 1000; decide), ?_⟩
  rw [fO_4]
  have n0 : ∀ x, H3 x = none → o ≠ x → H x = none := fun x e hx => by
    cases e' : H x with
    | none => rfl
    | some u => rw [k3 _ _ hx.symm e'] at e; cases e
  have ldn : upd (upd H3 l (.lst [])) o (.ins C dx (fO3 (.ref c) (.ref b) (.ref l))) d = none := nd
  have d3 : H3 d = none := by rw [upd_ne od.symm, upd_ne ld.symm] at ldn; exact ldn
  refine q l d _ (n0 l nl ol) (n0 d d3 od) ld ?_ upd_same ?_ ?_
  · refine Kp.tr k3 (fun x u hx e => ?_)
    rw [upd_ne hx, upd_ne (ne_of_none e d3), upd_ne hx, upd_ne (ne_of_none e nl)]; exact e
  · rw [upd_ne ol.symm, upd_ne ld, upd_ne ol.symm, upd_same]
  · rw [upd_ne od.symm, upd_same]
abbrev sp_Office_init (A : Ad) : Sp := sp3 (a_Office_init A)
theorem g_Office_init (T : Fx K mg A) : Cf P w K mg base 5 "Office" A.O ["self", "chart", "arrangement"] (sp_Office_init A) :=
  cf3 T.d_Office_init sc_Office_init (fun _ _ _ _ _ _ us hl => match us, hl with | [_, _, _], _ => rfl) (bd_Office_init T)
theorem arV_none {n : Nat} : List.replicate n V.non = arV n (fun _ => none) := by
  apply List.ext_getElem?
  intro i
  rw [List.getElem?_replicate]
  rcases Nat.lt_or_ge i n with h | h
  · rw [if_pos h, arV_get h]; rfl
  · rw [if_neg (by omega), List.getElem?_eq_none (by rw [arV_len]; exact h)]
theorem valid_none {n : Nat} {par : Nat → Nat} : Valid n par (fun _ => none) := by
  constructor
  · intro _ _; rfl
  · intro _ _ e; cases e
  · intro _ _ _ e; cases e
  · intro _ _ _ e; cases e
def a_Office_vacant (A : Ad) : V → V → Hp → VK → Prop := fun x y H Q => ∃ c n par, x = .ref A.S ∧ y = .ref c ∧ H c = some (.tup (chV n par)) ∧ TreeOk n par ∧
  ∀ o dx b l d H', Same H H' → H o = none → H l = none → H d = none → l ≠ d → H' o = some (.ins A.S dx (fO (.ref c) (.ref b) (.ref l) (.ref d))) → H' b = some (.tup (arV n (fun _ => none))) → H' l = some (.lst []) → H' d = some (.lst []) → Q (.ref o) H'
theorem g_Office_vacant (T : Fx K mg A) : ∃ mc p g, ClX.CRead K A.S mc ∧ ClX.CMet K A.S mc "vacant" p g ∧ FnR P w K mg base CX0 7 g (sp2 (a_Office_vacant A)) := by
  obtain ⟨mc, p, g, fd, r1, r2, F⟩ := T.d_Office_vacant
  refine ⟨mc, p, g, r1, r2, ?_⟩
  obtain ⟨fi, fdi, M, FF⟩ := T.d_Strict_init
  have bI : Binds K fdi ["self", "chart", "arrangement"] [] := FF.bindsN (fun _ _ _ _ _ _ us hl => match us, hl with | [_, _, _], _ => rfl)
  have FI : FnOk P w K mg base CX0 5 fi fdi ["self", "chart", "arrangement"] (sp_Office_init A) := fn3 FF sc_Office_init (bd_Office_init T)
  have bV : Binds K fd ["cls", "chart"] [] := F.bindsN (fun _ _ _ _ _ _ us hl => match us, hl with | [_, _], _ => rfl)
  have FV : FnOk P w K mg base CX0 7 g fd ["cls", "chart"] (sp2 (a_Office_vacant A)) := by
    refine fn2 F sc_Office_vacant ?_
    rintro v1 v2 f cdv A' outer s E H Q hr ⟨c, n, par, rfl, rfl, hc, ok, q⟩
    refine ⟨_, (pss_cons (ps_expr (pe_g (g_require_chart T) hr (pa_cons (pv 1) pa_nil)))
      (pss_one (ps_ret (pe_makeL 0 M FI (hr.mono (by decide)) bI pass0 (pa_cons (pv 1) (pa_cons (pe_op op_repN (pe_tup (pa_cons pe_non pa_nil)) (pe_callB call_len_seq (by rfl) T.b_len (by decide +kernel) (pa_cons (pv 1) pa_nil))) pa_nil)))))), ?_⟩
    have n8 := ok.le
    have np := ok.pos
    refine ⟨_, rfl, c, n, par, rfl, hc, ok, fun H1 s1 => ?_⟩
    refine ⟨rfl, _, rfl, by show 1 ≤ sizeLine; decide, fun t1 nt1 => ?_⟩
    have s2 : Same H1 (upd H1 t1 (.tup [.non])) := Same.new nt1
    refine ⟨_, rfl, c, _, rfl, .inr (SqT.of (s2 _ _ (s1 _ _ hc))), ?_⟩
    have fin : ∀ (b : Addr) (H3 : Hp), Same H1 H3 → H3 b = some (.tup (arV n (fun _ => none))) → ∀ o dx, H3 o = none → H3 dx = none → dx ≠ o →
        a_Office_init A (.ref o) (.ref c) (.ref b) (upd (upd H3 dx (.own o)) o (.ins A.S dx [])) (fun v H2 => v = .non ∧ Q (.ref o) H2) := by
      intro b H3 s3 eb o dx ho hdx hne
      have s3 := Same.tr s1 s3
      refine ⟨o, A.S, dx, c, b, n, par, _, rfl, rfl, rfl, upd_same, .inr rfl, mk1 (s3 _ _ hc) ho hdx, mk1 eb ho hdx, ok, valid_none, fun l d H4 nl nd ld k4 e4 el ed => ⟨rfl, ?_⟩⟩
      have s4 := mk2 ho hdx k4
      exact q o dx b l d H4 (Same.tr s3 s4) (s3.free ho) (s3.free (mk3 ho hdx nl)) (s3.free (mk3 ho hdx nd)) ld e4 (s4 _ _ eb) el ed
    refine ⟨t1, _, .non, rfl, rfl, SqT.of upd_same, by rw [arV_len]; omega, by rw [arV_len]; omega, fun e1 => ?_, fun _ p hp => ?_⟩
    · refine fin t1 _ s2 (upd_same.trans ?_)
      have : n = 1 := by rw [arV_len] at e1; omega
      subst this; rfl
    · refine fin p _ (Same.tr s2 (Same.new hp)) (upd_same.trans ?_)
      rw [arV_len]
      exact congrArg (fun z => some (HO.tup z)) arV_none
  exact (FV.raw bV .nil).imp fun vs H Q E h => by rw [List.append_nil]; exact h
/-! ### the properties -/
abbrev sp_Office_arrangement (A : Ad) : Sp := sp1 fun x H Q => ∃ o C dx a b l d, x = .ref o ∧ IsO A C ∧ H o = some (.ins C dx (fO a b l d)) ∧ Q b H
theorem g_Office_arrangement (T : Fx K mg A) : Pf P w K mg base 1 (IsO A) "arrangement" ["self"] (sp_Office_arrangement A) := by
  refine pf1 T.d_Office_arrangement sc_Office_arrangement (fun _ _ _ _ _ _ us hl => match us, hl with | [_], _ => rfl) ?_
  rintro v1 f cdv A' outer s E H Q hr ⟨o, C, dx, a, b, l, d, rfl, io, ho, q⟩
  refine ⟨_, (pss_one (ps_ret (pe_fld (pv 0) rfl))), ?_⟩
  have cc := T.off io
  exact ⟨_, rfl, o, C, dx, _, _, rfl, ho, cc.cl, cc.now, lO_now _ _ _ _, q⟩
abbrev sp_Office_head (A : Ad) : Sp := sp1 fun x H Q => ∃ o C dx a b l d n f, x = .ref o ∧ IsO A C ∧ H o = some (.ins C dx (fO a (.ref b) l d)) ∧ H b = some (.tup (arV n f)) ∧ 0 < n ∧ Q (oV (f 0)) H
theorem g_Office_head (T : Fx K mg A) : Pf P w K mg base 1 (IsF A) "head" ["self"] (sp_Office_head A) := by
  refine pf1 T.d_Office_head sc_Office_head (fun _ _ _ _ _ _ us hl => match us, hl with | [_], _ => rfl) ?_
  rintro v1 f cdv A' outer s E H Q hr ⟨o, C, dx, a, b, l, d, n, g, rfl, io, ho, hb, hn, q⟩
  refine ⟨_, (pss_one (ps_ret (pe_ix ix_tup (pe_fld (pv 0) rfl) pe_int (fun _ _ => rfl)))), ?_⟩
  have cc := T.off io
  exact ⟨_, rfl, o, C, dx, _, _, rfl, ho, cc.cl, cc.now, lO_now _ _ _ _, b, _, 0, _, rfl, rfl, SqT.of hb, arV_at (k := 0) hn, q⟩
/-- sorted people of an arrangement -/
theorem people_loop {H : Hp} {Q : VK} {n : Nat} {f : Nat → Option Int} (n8 : n ≤ 8) : True := trivial
abbrev sp_Office_people (A : Ad) : Sp := sp1 fun x H Q => ∃ o C dx a b l d n f, x = .ref o ∧ IsO A C ∧ H o = some (.ins C dx (fO a (.ref b) l d)) ∧ H b = some (.tup (arV n f)) ∧ n ≤ 8 ∧
  ∀ q H' (ys : List Int), Same H H' → H q = none → H' q = some (.lst (ys.map V.int)) → ys.Perm (ppl f n) → ys.Pairwise (· ≤ ·) → Q (.ref q) H'
theorem g_Office_people (T : Fx K mg A) : Pf P w K mg base 1 (IsO A) "people" ["self"] (sp_Office_people A) := by
  refine pf1 T.d_Office_people sc_Office_people (fun _ _ _ _ _ _ us hl => match us, hl with | [_], _ => rfl) ?_
  rintro v1 f cdv A' outer s E H Q hr ⟨o, C, dx, a, b, l, d, n, g, rfl, io, ho, hb, n8, q⟩
  refine ⟨_, (pss_one (ps_ret (pe_callB cr_sortedI (by rfl) T.b_sorted (by decide +kernel) (pa_cons (pe_lc (own := [("person", 1)]) (g := gName 1) rfl sc_Office_people.nd (pi_tup (pe_fld (pv 0) rfl)) (blkOk_by (N := ["self", "person"]) (sc := defScope s_Office_people) (by decide +kernel)) (fun _ _ _ _ _ => pg_name (i := 1) sc_Office_people.nd rfl (by first | exact Or.inl rfl | exact Or.inr rfl)) (fun _ _ _ _ _ => (pts_one (pt_cmpR op_notN (pv 1) pe_non (nomark _)))) (fun _ _ _ _ _ => (pv 1))) pa_nil)))), ?_⟩
  have cc := T.off io
  refine ⟨_, rfl, o, C, dx, _, _, rfl, ho, cc.cl, cc.now, lO_now _ _ _ _, b, rfl, ⟨_, SqT.of hb⟩, fun D hD => ?_⟩
  refine lc_it (walk_tup (xs := arV n g)) (fun i H' => Same H H' ∧ H' D = some (.lst ((ppl g i).map V.int))) ⟨Same.new hD, upd_same⟩ (fun i H' _ h => SqT.of (h.1 _ _ hb)) ?_ ?_
  · rintro i x H1 H2 hi ⟨sm, h1⟩ ⟨rfl, e⟩
    obtain ⟨hin, rfl⟩ := arV_geti e
    refine ⟨rfl, _, rfl, rfl, _, rfl, ?_⟩
    rw [ppl_succ]
    cases e1 : g i with
    | none => exact iteF ⟨sm, by rw [Option.toList_none, List.append_nil]; exact h1⟩
    | some x =>
      refine ifT rfl ⟨_, rfl, _, h1, ?_, fun b o e => by rw [upd_ne (ne_of_none e hD)]; exact sm _ _ e, ?_⟩
      · rw [List.length_map]; have := ppl_len (f := g) (n := i); exact small1000 (by omega)
      · rw [upd_same, List.map_append]; rfl
  rintro H1 ⟨sm1, h1⟩
  rw [arV_len] at h1
  exact ⟨D, ppl g n, rfl, SqL.of h1, fun ys p perm ris np => q p _ ys (Same.tr sm1 (Same.new np)) (sm1.free np) upd_same perm ris⟩
end MV
end

section
set_option Elab.async false
set_option autoImplicit false
set_option linter.all false
set_option maxRecDepth 100000
set_option maxHeartbeats 4000000
namespace MV
open PySem PySem.Spec PyProof.Rows L2 L3 MU PySem.W
variable {P : Program} {w : World} {K : PySem.W.Frag} {mg : Str → Option Value} {base : Heap} {A : Ad}
section
variable {X : Cx} {k k' : Nat} {x y : Str} {sp : Sp} {ps : List Str} {e : Expr} {es : List Expr} {t : TA} {p pos : Pos}
/-- a def with a star, by an alias, with a starred argument -/
theorem pe_r (G : Rf X.prog X.w X.K X.mg X.base k y sp) (ha : X.mg x = X.mg y) (hr : Room k' X.A) (hp : PA X (e :: es) t) (hg : Gl X x := by rfl) (hk : k ≤ k' := by decide) (hd : (x == ("__debug__" : Str)) = false := by decide)
    (he : starEach (e :: es) X.env = (false, eval e X.env) :: starEach es X.env := by rfl) (hst : (backTo pos (starEach es X.env)).any (·.1) = true := by rfl) : PE X (.Call (.Name x p) (e :: es) [] pos) (fun σ H Q => t σ H fun vs H1 => sp vs H1 Q E0) := by
  obtain ⟨f, hm, hkp, F⟩ := G
  exact StX.pe_callS2 F (hr.mono hk) hkp hg (ha.trans hm) pass0 hp hd he hst
theorem pe_ga (G : Gf X.prog X.w X.K X.mg X.base k y ps sp) (ha : X.mg x = X.mg y) (hr : Room k' X.A) (hp : PA X (e :: es) t) (hg : Gl X x := by rfl) (hk : k ≤ k' := by decide)
    (hdb : (x == ("__debug__" : Str)) = false := by decide) (he : starEach (e :: es) X.env = (false, eval e X.env) :: starEach es X.env := by rfl) (hpl : (backTo pos (starEach es X.env)).any (·.1) = false := by rfl) :
    PE X (.Call (.Name x p) (e :: es) [] pos) (tCall sp [] E0 t) := by
  obtain ⟨f, fd, hm, hkp, hb, F⟩ := G
  exact pe_call F (hr.mono hk) hg (ha.trans hm) hkp hb .nil pass0 hp hdb he hpl
end
/-! ### what an office looks like -/
structure Ent where
  b : Addr
  k : Nat
  f : Nat → Option Int
def PaAt (n : Nat) (H : Hp) (q : Addr) (e : Ent) : Prop := H q = some (.tup [.ref e.b, .int (e.k : Nat)]) ∧ H e.b = some (.tup (arV n e.f))
structure Of (A : Ad) (H : Hp) (o C dx c b l d : Addr) (n : Nat) (par : Nat → Nat) (f : Nat → Option Int) (es : List Ent) (ss : List Stp) : Prop where
  io : IsO A C
  eo : H o = some (.ins C dx (fO (.ref c) (.ref b) (.ref l) (.ref d)))
  ec : H c = some (.tup (chV n par))
  eb : H b = some (.tup (arV n f))
  ok : TreeOk n par
  va : Valid n par f
  ld : l ≠ d
  el : ∃ qs : List Addr, H l = some (.lst (qs.map V.ref)) ∧ Paired (PaAt n H) qs es
  ve : ∀ e ∈ es, Valid n par e.f
  ed : StL H d ss
theorem PaAt.keep {n : Nat} {H H' : Hp} {q : Addr} {e : Ent} (h : PaAt n H q e) (k : ∀ p xs, H p = some (.tup xs) → H' p = some (.tup xs)) : PaAt n H' q e := ⟨k _ _ h.1, k _ _ h.2⟩
/-- tuples stay where only an instance and lists change -/
theorem kpS_tup {H H' : Hp} {o C dx l d : Addr} {fs : List (Str × V)} {us vs : List V} (ho : H o = some (.ins C dx fs)) (hl : H l = some (.lst us)) (hd : H d = some (.lst vs)) (k : KpS [o, l, d] H H') : ∀ p xs, H p = some (.tup xs) → H' p = some (.tup xs) := fun p xs e =>
  k _ _ (by
    intro hm
    rcases List.mem_cons.mp hm with rfl | hm
    · rw [ho] at e; cases e
    · rcases List.mem_cons.mp hm with rfl | hm
      · rw [hl] at e; cases e
      · rcases List.mem_cons.mp hm with rfl | hm
        · rw [hd] at e; cases e
        · cases hm) e
abbrev sp_Office_put (A : Ad) : Sp := sp3 fun x y z H Q => ∃ o C dx c b l d n par f es ss b2 g s ss2, x = .ref o ∧ y = .ref b2 ∧ z = .ref s ∧ Of A H o C dx c b l d n par f es ss ∧ H b2 = some (.tup (arV n g)) ∧ Valid n par g ∧ StL H s ss2 ∧ s ≠ l ∧ s ≠ d ∧ es.length ≤ 100 ∧ ss.length + ss2.length ≤ 900 ∧
  ∀ H', KpS [o, l, d] H H' → Of A H' o C dx c b2 l d n par g (es ++ [⟨b, ss.length, f⟩]) (ss ++ ss2) → Q (.ref b2) H'
theorem g_Office_put (T : Fx K mg A) : Mf P w K mg base 1 (IsO A) "put" ["self", "arrangement", "steps"] (sp_Office_put A) := by
  refine mf3 T.d_Office_put sc_Office_put (fun _ _ _ _ _ _ us hl => match us, hl with | [_, _, _], _ => rfl) ?_
  rintro v1 v2 v3 f cdv A' outer s E H Q hr ⟨o, C, dx, c, b, l, d, n, par, g, es, ss, b2, g2, sl, ss2, rfl, rfl, rfl, O, hb2, vg2, hs, sll, sld, lel, lss, q⟩
  refine ⟨_, (pss_cons (ps_expr (pe_bm PySem.F.plainAttrs_list PySem.F.slot_list_append PySem.F.type_list_append mt_append (pe_fld (pv 0) rfl) (pa_cons (pe_tup (pa_cons (pe_fld (pv 0) rfl) (pa_cons (pe_callB call_len_seq (by rfl) T.b_len (by decide +kernel) (pa_cons (pe_fld (pv 0) rfl) pa_nil)) pa_nil))) pa_nil)))
      (pss_cons (ps_fld (pv 0) (pv 1) rfl)
      (pss_cons (ps_expr (pe_bm PySem.F.plainAttrs_list PySem.F.slot_list_extend PySem.F.type_list_extend mt_extend (pe_fld (pv 0) rfl) (pa_cons (pv 2) pa_nil)))
      (pss_one (ps_ret (pv 1)))))), ?_⟩
  have cc := T.off O.io
  obtain ⟨qs, el, pa⟩ := O.el
  obtain ⟨ds, ed, pd⟩ := O.ed
  obtain ⟨zs, es2, pz⟩ := hs
  have ho := O.eo
  have lo : l ≠ o := ne_of el ho (by intro z; cases z)
  have do_ : d ≠ o := ne_of ed ho (by intro z; cases z)
  have so : sl ≠ o := ne_of es2 ho (by intro z; cases z)
  have ql : qs.length = es.length := paired_len pa
  have dl : ds.length = ss.length := paired_len pd
  have zl : zs.length = ss2.length := paired_len pz
  refine ⟨_, rfl, o, C, dx, _, _, rfl, ho, cc.cl, cc.past, lO_past _ _ _ _, .inl ⟨rfl, _, SqL.of el⟩, ?_⟩
  refine ⟨_, rfl, o, C, dx, _, _, rfl, ho, cc.cl, cc.now, lO_now _ _ _ _, _, rfl, o, C, dx, _, _, rfl, ho, cc.cl, cc.done, lO_done _ _ _ _, d, _, rfl, .inl (SqL.of ed), by show 2 ≤ sizeLine; decide, fun t ht => ?_⟩
  rw [List.length_map, dl]
  have s1 : Same H (upd H t (.tup [.ref b, .int (ss.length : Nat)])) := Same.new ht
  refine ⟨l, _, _, rfl, rfl, s1 _ _ el, by rw [List.length_map]; exact small1000 (by omega), ?_⟩
  obtain ⟨H2, eH2⟩ : ∃ H2, H2 = upd (upd H t (.tup [.ref b, .int (ss.length : Nat)])) l (.lst (qs.map V.ref ++ [.ref t])) := ⟨_, rfl⟩
  rw [← eH2]
  have k2 : Kp l H H2 := by rw [eH2]; exact Kp.tr (Kp.same s1) Kp.upd_
  have tl : t ≠ l := (ne_of_none el ht).symm
  have et2 : H2 t = some (.tup [.ref b, .int (ss.length : Nat)]) := by rw [eH2, upd_ne tl]; exact upd_same
  have el2 : H2 l = some (.lst ((qs ++ [t]).map V.ref)) := by rw [eH2, List.map_append]; exact upd_same
  clear eH2
  refine ⟨_, rfl, _, rfl, o, C, dx, _, rfl, k2 _ _ lo.symm ho, cc.cl, cc.now, (by show 4 < 1000; decide), ?_⟩
  rw [fO_now]
  obtain ⟨H3, eH3⟩ : ∃ H3, H3 = upd H2 o (.ins C dx (fO (.ref c) (.ref b2) (.ref l) (.ref d))) := ⟨_, rfl⟩
  rw [← eH3]
  have k3 : Kp o H2 H3 := by rw [eH3]; exact Kp.upd_
  have eo3 : H3 o = some (.ins C dx (fO (.ref c) (.ref b2) (.ref l) (.ref d))) := by rw [eH3]; exact upd_same
  clear eH3
  have ed3 : H3 d = some (.lst (ds.map V.ref)) := k3 _ _ do_ (k2 _ _ O.ld.symm ed)
  have es3 : H3 sl = some (.lst (zs.map V.ref)) := k3 _ _ so (k2 _ _ sll es2)
  refine ⟨_, rfl, o, C, dx, _, _, rfl, eo3, cc.cl, cc.done, lO_done _ _ _ _, .inl ⟨rfl, _, SqL.of ed3⟩, ?_⟩
  refine ⟨_, rfl, d, sl, _, _, rfl, rfl, ed3, es3, by rw [List.length_map, List.length_map]; exact Nat.le_of_lt (small1000 (by omega)), ?_⟩
  obtain ⟨H4, eH4⟩ : ∃ H4, H4 = upd H3 d (.lst (ds.map V.ref ++ zs.map V.ref)) := ⟨_, rfl⟩
  rw [← eH4]
  have k4 : Kp d H3 H4 := by rw [eH4]; exact Kp.upd_
  have ed4 : H4 d = some (.lst ((ds ++ zs).map V.ref)) := by rw [eH4, List.map_append]; exact upd_same
  clear eH4
  have kk : KpS [o, l, d] H H4 := fun x u hx e => by
    have h1 : x ≠ o := fun z => hx (by simp [z])
    have h2 : x ≠ l := fun z => hx (by simp [z])
    have h3 : x ≠ d := fun z => hx (by simp [z])
    exact k4 _ _ h3 (k3 _ _ h1 (k2 _ _ h2 e))
  have kt := kpS_tup ho el ed kk
  have td : t ≠ d := (ne_of_none ed ht).symm
  have to : t ≠ o := (ne_of_none ho ht).symm
  refine ⟨_, rfl, q H4 kk ⟨O.io, k4 _ _ do_.symm eo3, kt _ _ O.ec, kt _ _ hb2, O.ok, vg2, O.ld, ⟨qs ++ [t], k4 _ _ O.ld (k3 _ _ lo el2), ?_⟩, ?_, ⟨ds ++ zs, ed4, ?_⟩⟩⟩
  · exact paired_append (paired_up pa fun x e h => h.keep kt) (.cons ⟨k4 _ _ td (k3 _ _ to et2), kt _ _ O.eb⟩ .nil)
  · intro e he
    rcases List.mem_append.mp he with he | he
    · exact O.ve e he
    · rw [List.mem_singleton] at he; subst he; exact O.va
  · exact paired_append (paired_up pd fun x e h => h.keep fun xs z => kt _ _ z) (paired_up pz fun x e h => h.keep fun xs z => kt _ _ z)
end MV
end

section
set_option Elab.async false
set_option autoImplicit false
set_option linter.all false
set_option maxRecDepth 100000
set_option maxHeartbeats 4000000
namespace MV
open PySem PySem.Spec PyProof.Rows L2 L3 MU PySem.W
variable {P : Program} {w : World} {K : PySem.W.Frag} {mg : Str → Option Value} {base : Heap} {A : Ad}
variable {H H' : Hp} {o C dx c b l d : Addr} {n : Nat} {par : Nat → Nat} {f : Nat → Option Int} {es : List Ent} {ss : List Stp}
theorem Of.same (O : Of A H o C dx c b l d n par f es ss) (s : Same H H') : Of A H' o C dx c b l d n par f es ss := by
  obtain ⟨qs, el, pa⟩ := O.el
  exact ⟨O.io, s _ _ O.eo, s _ _ O.ec, s _ _ O.eb, O.ok, O.va, O.ld, ⟨qs, s _ _ el, paired_up pa fun x e h => h.keep fun _ _ z => s _ _ z⟩, O.ve, O.ed.same s⟩
theorem KpS.after {H1 H2 H3 : Hp} {rs : List Addr} (s : Same H1 H2) (k : KpS rs H2 H3) : KpS rs H1 H3 := fun x u hx e => k _ _ hx (s _ _ e)
theorem Of.lne (O : Of A H o C dx c b l d n par f es ss) {x : Addr} (h : H x = none) : x ≠ l ∧ x ≠ d ∧ x ≠ o := by
  obtain ⟨qs, el, _⟩ := O.el
  obtain ⟨ds, ed, _⟩ := O.ed
  exact ⟨(ne_of_none el h).symm, (ne_of_none ed h).symm, (ne_of_none O.eo h).symm⟩
/-! ### leave -/
def a_Office_leave (A : Ad) : List V → Hp → VK → Prop := fun vs H Q => ∃ o dx c b l d n par f es ss p xs, vs = [.ref o, .ref p] ∧ Of A H o A.O dx c b l d n par f es ss ∧ H p = some (.tup (xs.map V.int)) ∧ xs.Nodup ∧ (∀ x ∈ xs, Ppl f x) ∧ xs.length ≤ 8 ∧ es.length ≤ 100 ∧ ss.length ≤ 800 ∧
  ∀ b2 H' g, Lvs n par f xs g → KpS [o, l, d] H H' → Of A H' o A.O dx c b2 l d n par g (es ++ [⟨b, ss.length, f⟩]) (ss ++ xs.map .lv) → Q (.ref b2) H'
theorem g_Office_leave (T : Fx K mg A) : ∃ f, (∀ C, IsF A C → BMeth K C "leave" f) ∧ FnR P w K mg base CX0 6 f (starSp 1 (a_Office_leave A)) := by
  obtain ⟨f, fd, hb, F⟩ := T.d_Office_leave
  refine ⟨f, hb, fr_star (ps := ["self"]) F sc_Office_leave (fun kV doc pm an cdv ct => StX.bind_star1 (B := fun us => bindArgs (PySem.W.fnOf "leave" "Office.leave" (defArgs s_Office_leave) (defBody s_Office_leave) (defScope s_Office_leave) .none kV doc pm an cdv ct) ⟨us, []⟩) (p1 := "self") (pv := "people") (fun _ => rfl) (fun _ _ _ => rfl)) ?_⟩
  rintro vs f cdv A' outer s E H Q hr ⟨o, dx, c, b, l, d, n, par, g, es, ss, p, xs, rfl, O, hp, nd, hx, lx, le', ls, q⟩
  refine ⟨_, (pss_cons (ps_set (i := 2) sc_Office_leave.nd rfl (by first | exact Or.inl rfl | exact Or.inr rfl) (pe_r (g_leave T) T.a_leave hr (pa_cons (pe_fld (pv 0) rfl) (pa_cons (pe_fld (pv 0) rfl) (StX.pa_star (pv 1) pa_nil)))))
      (pss_one (ps_ret (pe_m (g_Office_put T) (.inl rfl) T.cl_O hr (pv 0) (pa_cons (pv 2) (pa_cons (pe_lc (own := [("person", 3)]) (g := gName 3) (tt := tYes) rfl sc_Office_leave.nd (pi_tup (pv 1)) (blkOk_by (N := ["self", "people", "arrangement", "person"]) (sc := defScope s_Office_leave) (by decide +kernel)) (fun _ _ _ _ _ => pg_name (i := 3) sc_Office_leave.nd rfl (by first | exact Or.inl rfl | exact Or.inr rfl)) (fun _ _ _ _ _ => pts_nil) (fun _ _ _ _ _ => (pe_tup (pa_cons pe_str (pa_cons (pv 3) pa_nil))))) pa_nil)))))), ?_⟩
  have cc := T.off O.io
  refine ⟨_, rfl, o, A.O, dx, _, _, rfl, O.eo, cc.cl, cc.above, lO_above _ _ _ _, _, rfl, o, A.O, dx, _, _, rfl, O.eo, cc.cl, cc.now, lO_now _ _ _ _, _, rfl, p, _, rfl, .inl (SqT.of hp), ?_⟩
  refine ⟨[.ref c, .ref b], xs.map V.int, by rw [List.append_nil]; rfl, rfl, by rw [List.length_map]; exact Nat.le_of_lt (small1000 (by omega)), fun p2 hp2 => ?_⟩
  have s1 : Same H (upd H p2 (.tup (xs.map V.int))) := Same.new hp2
  refine ⟨c, b, p2, n, par, g, xs, rfl, s1 _ _ O.ec, s1 _ _ O.eb, upd_same, O.ok, O.va, nd, hx, lx, fun b2 H2 g2 s2 nb2 eb2 lv => ?_⟩
  have s2 := Same.tr s1 s2
  have O2 := O.same s2
  refine ⟨_, rfl, o, dx, _, rfl, O2.eo, lO_put _ _ _ _, _, rfl, _, rfl, p, rfl, ⟨_, SqT.of (s2 _ _ hp)⟩, fun D hD => ?_⟩
  refine lc_it (walk_tup (xs := xs.map V.int)) (fun i H' => Same H2 H' ∧ ∃ ps : List Addr, H' D = some (.lst (ps.map V.ref)) ∧ Paired (StAt H') ps ((xs.take i).map .lv))
    ⟨Same.new hD, [], upd_same, .nil⟩ (fun i H' _ x => SqT.of (x.1 _ _ (s2 _ _ hp))) ?_ ?_
  · rintro i x H3 H4 hi ⟨sm, ps, y1, y2⟩ ⟨rfl, ex⟩
    rw [List.getElem?_map] at ex
    obtain ⟨z, hz, rfl⟩ := Option.map_eq_some_iff.mp ex
    refine ⟨rfl, _, rfl, by show 2 ≤ sizeLine; decide, fun x hx => ?_⟩
    have hxD : x ≠ D := (ne_of_none y1 hx).symm
    have pll := paired_len y2
    refine ⟨ps.map V.ref, by rw [upd_ne hxD.symm]; exact y1, ?_, fun b o e => by rw [upd_ne (ne_of_none e hD), upd_ne (ne_of_none (sm _ _ e) hx)]; exact sm _ _ e, ps ++ [x], by rw [upd_same, List.map_append]; rfl, ?_⟩
    · rw [List.length_map, pll, List.length_map, List.length_take]; exact small1000 (by omega)
    · rw [List.take_add_one, hz, List.map_append]
      refine paired_append (paired_up y2 fun b xx hb => hb.keep fun us hu => ?_) (.cons ?_ .nil)
      · have b1 : b ≠ x := ne_of_none hu hx
        have b2 : b ≠ D := fun z => by subst z; rw [y1] at hu; cases hu
        rw [upd_ne b2, upd_ne b1]; exact hu
      · show upd _ _ _ x = _
        rw [upd_ne hxD, upd_same]
  rintro H3 ⟨s3, ps, y1, y2⟩
  rw [List.length_map, List.take_length] at y2
  have O3 := O2.same s3
  obtain ⟨n1, n2, _⟩ := O2.lne hD
  refine ⟨o, A.O, dx, c, b, l, d, n, par, g, es, ss, b2, g2, D, _, rfl, rfl, rfl, O3, s3 _ _ eb2, (lv.val O.va).1, ⟨ps, y1, y2⟩, n1, n2, le', by rw [List.length_map]; omega, fun H4 k4 O4 => ?_⟩
  exact q b2 H4 g2 lv (KpS.after (Same.tr s2 s3) k4) O4
/-! ### play -/
abbrev sp_Office_play (A : Ad) : Sp := sp2 fun x y H Q => ∃ o dx c b l d n par f es ss p ss2 g, x = .ref o ∧ y = .ref p ∧ Of A H o A.O dx c b l d n par f es ss ∧ StL H p ss2 ∧ p ≠ l ∧ p ≠ d ∧ PlaysTo n par f ss2 g ∧ es.length ≤ 100 ∧ ss.length + ss2.length ≤ 900 ∧
  ∀ b2 H', KpS [o, l, d] H H' → Of A H' o A.O dx c b2 l d n par g (es ++ [⟨b, ss.length, f⟩]) (ss ++ ss2) → Q (.ref b2) H'
theorem g_Office_play (T : Fx K mg A) : Mf P w K mg base 6 (IsF A) "play" ["self", "plan"] (sp_Office_play A) := by
  refine mf2 T.d_Office_play sc_Office_play (fun _ _ _ _ _ _ us hl => match us, hl with | [_, _], _ => rfl) ?_
  rintro v1 v2 f cdv A' outer s E H Q hr ⟨o, dx, c, b, l, d, n, par, g, es, ss, p, ss2, g2, rfl, rfl, O, hp, pl, pd, pt, le', ls, q⟩
  refine ⟨_, (pss_one (ps_ret (pe_m (g_Office_put T) (.inl rfl) T.cl_O hr (pv 0) (pa_cons (pe_ga (g_play T) T.a_play hr (pa_cons (pe_fld (pv 0) rfl) (pa_cons (pe_fld (pv 0) rfl) (pa_cons (pv 1) pa_nil)))) (pa_cons (pv 1) pa_nil))))), ?_⟩
  have cc := T.off O.io
  refine ⟨_, rfl, o, dx, _, rfl, O.eo, lO_put _ _ _ _, ?_⟩
  refine ⟨_, rfl, o, A.O, dx, _, _, rfl, O.eo, cc.cl, cc.above, lO_above _ _ _ _, _, rfl, o, A.O, dx, _, _, rfl, O.eo, cc.cl, cc.now, lO_now _ _ _ _, _, rfl, ?_⟩
  refine ⟨c, b, p, n, par, g, ss2, g2, rfl, rfl, rfl, O.ec, O.eb, O.ok, O.va, hp, pt, fun b2 H2 s2 nb2 eb2 => ?_⟩
  refine ⟨_, rfl, o, A.O, dx, c, b, l, d, n, par, g, es, ss, b2, g2, p, ss2, rfl, rfl, rfl, O.same s2, eb2, pt.val O.va, hp.same s2, pl, pd, le', ls, fun H3 k3 O3 => ?_⟩
  exact q b2 H3 (KpS.after s2 k3) O3
/-! ### undo -/
theorem dp_past {q : List Addr} {es : List Ent} (h : Paired (PaAt n H) q es) : DpAll K H (q.map V.ref) ((es.map fun e => ((⟨opl n e.f⟩ : Tup (Option Int)), (e.k : Int))).map Datum.toD) := by
  induction h with
  | nil => exact .nil
  | cons a t ih => exact .cons (Dp.tup (SqT.of a.1) (.cons (dp_opts (SqT.of a.2)) (.cons (.int _) .nil))) ih
theorem cutV_take {xs : List V} {k : Nat} : cutV xs none (some (k : Int)) = xs.take k := by
  unfold cutV
  have e1 : HT.sIx xs.length 0 none = 0 := rfl
  rw [e1, HT.sIx_nat, List.drop_zero, Nat.sub_zero, Nat.min_comm]
  rw [← List.take_take, List.take_of_length_le (List.length_take_le' _ _)]
theorem paired_take {α β : Type} {F : α → β → Prop} : ∀ {xs : List α} {ys : List β}, Paired F xs ys → ∀ k, Paired F (xs.take k) (ys.take k)
  | _, _, .nil, k => by rw [List.take_nil, List.take_nil]; exact .nil
  | _, _, .cons _ _, 0 => .nil
  | _, _, .cons a t, k + 1 => .cons a (paired_take t k)
abbrev sp_Office_undo (A : Ad) : Sp := sp1 fun x H Q => ∃ o dx c b l d n par f es ss e, x = .ref o ∧ Of A H o A.O dx c b l d n par f (es ++ [e]) ss ∧
  ∀ d2 H', KpS [o, l, d] H H' → H d2 = none → Of A H' o A.O dx c e.b l d2 n par e.f es (ss.take e.k) → Q .non H'
theorem g_Office_undo (T : Fx K mg A) : Mf P w K mg base 1 (IsF A) "undo" ["self"] (sp_Office_undo A) := by
  refine mf1 T.d_Office_undo sc_Office_undo (fun _ _ _ _ _ _ us hl => match us, hl with | [_], _ => rfl) ?_
  rintro v1 f cdv A' outer s E H Q hr ⟨o, dx, c, b, l, d, n, par, g, es, ss, e, rfl, O, q⟩
  refine ⟨_, (pss_cons (ps_if (pt_cmpR (eqP (List (Tup (Option Int) × Int)) hr (by decide)) (pe_fld (pv 0) rfl) (pe_lst pa_nil) (nomark _)) pss_never pss_nil)
      (pss_cons (ps_asg (pe_bm0 PySem.F.plainAttrs_list PySem.F.slot_list_pop PySem.F.type_list_pop mt_pop (pe_fld (pv 0) rfl)) (pg_tup rfl (pgs_cons (pg_fld (pv 0)) (pgs_cons (pg_name (i := 1) sc_Office_undo.nd rfl (by first | exact Or.inl rfl | exact Or.inr rfl)) pgs_nil))))
      (pss_one (ps_fld (pv 0) (pe_slice sl_list (pe_fld (pv 0) rfl) po_none (po_some (pv 1))) rfl)))), ?_⟩
  have cc := T.off O.io
  obtain ⟨qs, el, pa⟩ := O.el
  obtain ⟨ds, ed, pd⟩ := O.ed
  have ho := O.eo
  have qn : qs ≠ [] := fun z => by have := paired_len pa; rw [z] at this; simp at this
  obtain ⟨qs', t, es', e', rfl, ee, pa', pt⟩ := paired_last pa qn
  have e12 : es = es' ∧ e = e' := by
    have := List.append_inj_right' ee rfl
    have h2 := List.append_inj_left' ee rfl
    exact ⟨h2, by simpa using this⟩
  obtain ⟨rfl, rfl⟩ := e12
  have lo : l ≠ o := ne_of el ho (by intro z; cases z)
  have do_ : d ≠ o := ne_of ed ho (by intro z; cases z)
  refine ⟨_, rfl, o, A.O, dx, _, _, rfl, ho, cc.cl, cc.past, lO_past _ _ _ _, Nat.zero_le _, fun z nz => ?_⟩
  have sz : Same H (upd H z (.lst [])) := Same.new nz
  refine ⟨_, [], .lst (SqL.of (sz _ _ el)) (dp_past (paired_up pa fun x e h => h.keep fun _ _ u => sz _ _ u)), .lst (SqL.of upd_same) .nil, _, rfl, ?_⟩
  refine ifF (decide_eq_false (by simp)) ?_
  have ed0 : (((qs' ++ [t]).map V.ref).dropLast) = qs'.map V.ref := by rw [List.map_append]; exact List.dropLast_concat
  refine ⟨_, rfl, o, A.O, dx, _, _, rfl, sz _ _ ho, cc.cl, cc.past, lO_past _ _ _ _, .inl ⟨rfl, _, SqL.of (sz _ _ el)⟩, l, _, .ref t, rfl, rfl, sz _ _ el, by simp, ?_⟩
  rw [ed0]
  obtain ⟨H2, eH2⟩ : ∃ H2, H2 = upd (upd H z (.lst [])) l (.lst (qs'.map V.ref)) := ⟨_, rfl⟩
  rw [← eH2]
  have k2 : Kp l H H2 := by rw [eH2]; exact Kp.tr (Kp.same sz) Kp.upd_
  have el2 : H2 l = some (.lst (qs'.map V.ref)) := by rw [eH2]; exact upd_same
  clear eH2
  have tl2 : ∀ {x xs}, H x = some (.tup xs) → H2 x = some (.tup xs) := fun {x xs} u => k2 _ _ (ne_of u el (by intro z; cases z)) u
  refine ⟨t, _, rfl, SqT.of (tl2 pt.1), rfl, _, _, rfl, ?_⟩
  refine ⟨_, rfl, o, A.O, dx, _, rfl, k2 _ _ lo.symm ho, cc.cl, cc.now, (by show 4 < 1000; decide), ?_⟩
  rw [fO_now]
  refine ⟨_, _, rfl, rfl, ?_⟩
  obtain ⟨H3, eH3⟩ : ∃ H3, H3 = upd H2 o (.ins A.O dx (fO (.ref c) (.ref e.b) (.ref l) (.ref d))) := ⟨_, rfl⟩
  rw [← eH3]
  have k3 : Kp o H2 H3 := by rw [eH3]; exact Kp.upd_
  have eo3 : H3 o = some (.ins A.O dx (fO (.ref c) (.ref e.b) (.ref l) (.ref d))) := by rw [eH3]; exact upd_same
  clear eH3
  have ed3 : H3 d = some (.lst (ds.map V.ref)) := k3 _ _ do_ (k2 _ _ O.ld.symm ed)
  have el3 : H3 l = some (.lst (qs'.map V.ref)) := k3 _ _ lo el2
  refine ⟨_, rfl, o, A.O, dx, _, _, rfl, eo3, cc.cl, cc.done, lO_done _ _ _ _, _, rfl, _, rfl, d, _, rfl, SqL.of ed3, fun d2 nd2 => ?_⟩
  refine ⟨_, rfl, o, A.O, dx, _, rfl, (Same.new nd2) _ _ eo3, cc.cl, cc.done, (by show 4 < 1000; decide), ?_⟩
  rw [fO_done, cutV_take]
  have d2o : d2 ≠ o := (ne_of_none eo3 nd2).symm
  have ld2 : l ≠ d2 := ne_of_none el3 nd2
  have kk : KpS [o, l, d] H (upd (upd H3 d2 (.lst ((ds.map V.ref).take e.k))) o (.ins A.O dx (fO (.ref c) (.ref e.b) (.ref l) (.ref d2)))) := fun x u hx e => by
    have h1 : x ≠ o := fun z => hx (by simp [z])
    have h2 : x ≠ l := fun z => hx (by simp [z])
    have e3 := k3 _ _ h1 (k2 _ _ h2 e)
    rw [upd_ne h1, upd_ne (ne_of_none e3 nd2)]; exact e3
  have kt := kpS_tup ho el ed kk
  have hd2 : H d2 = none := by
    cases e9 : H d2 with
    | none => rfl
    | some u => rw [k3 _ _ d2o (k2 _ _ ld2.symm e9)] at nd2; cases nd2
  refine q d2 _ kk hd2 ⟨O.io, upd_same, kt _ _ O.ec, kt _ _ pt.2, O.ok, O.ve e (by simp), ld2, ⟨qs', ?_, paired_up pa' fun x e h => h.keep kt⟩, fun y hy => O.ve y (List.mem_append_left _ hy), ⟨ds.take e.k, ?_, ?_⟩⟩
  · rw [upd_ne lo, upd_ne ld2]; exact el3
  · rw [upd_ne d2o, upd_same, List.map_take]
  · exact paired_take (paired_up pd fun x e h => h.keep fun xs z => kt _ _ z) e.k
/-! ### log, len, in, == -/
abbrev sp_Office_log (A : Ad) : Sp := sp1 fun x H Q => ∃ o C dx c b l d n par f es ss, x = .ref o ∧ Of A H o C dx c b l d n par f es ss ∧ ∀ q H', Same H H' → StL H' q ss → Q (.ref q) H'
theorem g_Office_log (T : Fx K mg A) : Mf P w K mg base 1 (IsF A) "log" ["self"] (sp_Office_log A) := by
  refine mf1 T.d_Office_log sc_Office_log (fun _ _ _ _ _ _ us hl => match us, hl with | [_], _ => rfl) ?_
  rintro v1 f cdv A' outer s E H Q hr ⟨o, C, dx, c, b, l, d, n, par, g, es, ss, rfl, O, q⟩
  refine ⟨_, (pss_one (ps_ret (pe_callTy call_list_of (by rfl) T.b_list (by decide +kernel) (pa_cons (pe_fld (pv 0) rfl) pa_nil)))), ?_⟩
  have cc := T.off O.io
  obtain ⟨ds, ed, pd⟩ := O.ed
  exact ⟨_, rfl, o, C, dx, _, _, rfl, O.eo, cc.cl, cc.done, lO_done _ _ _ _, d, _, rfl, .inl (SqL.of ed), fun z nz => q z _ (Same.new nz) ⟨ds, upd_same, paired_up pd fun x e h => h.same (Same.new nz)⟩⟩
abbrev sp_Office_len (A : Ad) : Sp := sp1 fun x H Q => ∃ o C dx c b l d n par f es ss, x = .ref o ∧ Of A H o C dx c b l d n par f es ss ∧ Q (.int (es.length : Nat)) H
theorem g_Office_len (T : Fx K mg A) : Mf P w K mg base 1 (IsO A) "__len__" ["self"] (sp_Office_len A) := by
  refine mf1 T.d_Office_len sc_Office_len (fun _ _ _ _ _ _ us hl => match us, hl with | [_], _ => rfl) ?_
  rintro v1 f cdv A' outer s E H Q hr ⟨o, C, dx, c, b, l, d, n, par, g, es, ss, rfl, O, q⟩
  refine ⟨_, (pss_one (ps_ret (pe_callB call_len_seq (by rfl) T.b_len (by decide +kernel) (pa_cons (pe_fld (pv 0) rfl) pa_nil)))), ?_⟩
  have cc := T.off O.io
  obtain ⟨qs, el, pa⟩ := O.el
  refine ⟨_, rfl, o, C, dx, _, _, rfl, O.eo, cc.cl, cc.past, lO_past _ _ _ _, l, _, rfl, .inl (SqL.of el), ?_⟩
  show Q (.int ((qs.map V.ref).length : Nat)) H
  rw [List.length_map, paired_len pa]
  exact q
abbrev sp_Office_contains (A : Ad) : Sp := sp2 fun x y H Q => ∃ o C dx c b l d n par f es ss z, x = .ref o ∧ y = .int z ∧ Of A H o C dx c b l d n par f es ss ∧ 0 ≤ z ∧ Q (.bl (inV (.int z) (arV n f))) H
theorem g_Office_contains (T : Fx K mg A) : Mf P w K mg base 2 (IsO A) "__contains__" ["self", "person"] (sp_Office_contains A) := by
  refine mf2 T.d_Office_contains sc_Office_contains (fun _ _ _ _ _ _ us hl => match us, hl with | [_, _], _ => rfl) ?_
  rintro v1 v2 f cdv A' outer s E H Q hr ⟨o, C, dx, c, b, l, d, n, par, g, es, ss, z, rfl, rfl, O, hz, q⟩
  refine ⟨_, (pss_one (ps_ret (pe_and (pe_g (g_is_whole T) hr (pa_cons (pv 1) pa_nil)) (pe_one (pe_cmpR op_in_seq (pv 1) (pe_fld (pv 0) rfl) (by rfl)))))), ?_⟩
  have cc := T.off O.io
  refine ⟨_, rfl, z, rfl, _, rfl, ?_⟩
  refine ifT (decide_eq_true hz) ?_
  exact ⟨_, rfl, _, rfl, o, C, dx, _, _, rfl, O.eo, cc.cl, cc.now, lO_now _ _ _ _, b, _, rfl, .inr (SqT.of O.eb), rfl, flat_arV, q⟩
abbrev sp_Office_eq (A : Ad) : Sp := sp2 fun x y H Q => ∃ o C dx c b l d o2 dx2 c2 b2 l2 d2 n par f, x = .ref o ∧ y = .ref o2 ∧ IsO A C ∧ H o = some (.ins C dx (fO (.ref c) (.ref b) l d)) ∧ H o2 = some (.ins A.O dx2 (fO (.ref c2) (.ref b2) l2 d2)) ∧ H c = some (.tup (chV n par)) ∧ H c2 = some (.tup (chV n par)) ∧ H b = some (.tup (arV n f)) ∧ H b2 = some (.tup (arV n f)) ∧ Q (.bl true) H
theorem g_Office_eq (T : Fx K mg A) : Mf P w K mg base 1 (IsO A) "__eq__" ["self", "other"] (sp_Office_eq A) := by
  refine mf2 T.d_Office_eq sc_Office_eq (fun _ _ _ _ _ _ us hl => match us, hl with | [_, _], _ => rfl) ?_
  rintro v1 v2 f cdv A' outer s E H Q hr ⟨o, C, dx, c, b, l, d, o2, dx2, c2, b2, l2, d2, n, par, g, rfl, rfl, io, ho, ho2, hc, hc2, hb, hb2, q⟩
  refine ⟨_, (pss_one (ps_ret (pe_and (pe_callB call_isi (by rfl) T.b_isinstance (by decide +kernel) (pa_cons (pv 1) (pa_cons (pe_glob rfl T.d_Office_init.1 (v := .ref A.O) rfl) pa_nil))) (pe_and (pe_cmpR (eqP (Tup (Option Int)) hr (by decide)) (pe_fld (pv 0) rfl) (pe_fld (pv 1) rfl) (nomark _)) (pe_one (pe_cmpR (eqP (Tup (Option Int)) hr (by decide)) (pe_fld (pv 0) rfl) (pe_fld (pv 1) rfl) (nomark _))))))), ?_⟩
  have cc := T.off io
  refine ⟨_, rfl, _, _, _, _, true, rfl, .own _, .base (T.isiO ho2), T.kitO, true, rfl, iteT ?_⟩
  refine ⟨_, rfl, o, C, dx, _, _, rfl, ho, cc.cl, cc.above, lO_above _ _ _ _, _, rfl, o2, A.O, dx2, _, _, rfl, ho2, T.cl_O, T.n_O_above, lO_above _ _ _ _, _, _, dp_opts (SqT.of hc), dp_opts (SqT.of hc2), true, congrArg V.bl (decide_eq_true rfl), iteT ?_⟩
  refine ⟨_, rfl, o, C, dx, _, _, rfl, ho, cc.cl, cc.now, lO_now _ _ _ _, _, rfl, o2, A.O, dx2, _, _, rfl, ho2, T.cl_O, T.n_O_now, lO_now _ _ _ _, _, _, dp_opts (SqT.of hb), dp_opts (SqT.of hb2), ?_⟩
  rw [decide_eq_true rfl]
  exact q
/-! ### smallest_open, admit -/
abbrev sp_smallest_open : Sp := sp2 fun x y H Q => ∃ c b n par f e, x = .ref c ∧ y = .ref b ∧ H c = some (.tup (chV n par)) ∧ H b = some (.tup (arV n f)) ∧ TreeOk n par ∧ e < n ∧ openB par f e = true ∧ (∀ k, k < e → openB par f k = false) ∧ ∀ H', Same H H' → Q (.int (e : Nat)) H'
theorem g_smallest_open (T : Fx K mg A) : Gf P w K mg base 1 "smallest_open" ["chart", "arrangement"] (sp_smallest_open) := by
  refine gf2 T.d_smallest_open sc_smallest_open (fun _ _ _ _ _ _ us hl => match us, hl with | [_, _], _ => rfl) ?_
  rintro v1 v2 f cdv A' outer s E H Q hr ⟨c, b, n, par, g, e, rfl, rfl, hc, hb, ok, en, eo, ek, q⟩
  refine ⟨_, (pss_cons (ps_for PassesOwn.never rfl (pi_enumT (by rfl) T.b_enumerate (pa_cons (pv 1) pa_nil)) (pg_tup rfl (pgs_cons (pg_name (i := 2) sc_smallest_open.nd rfl (by first | exact Or.inl rfl | exact Or.inr rfl)) (pgs_cons (pg_name (i := 3) sc_smallest_open.nd rfl (by first | exact Or.inl rfl | exact Or.inr rfl)) pgs_nil)))
      (pss_one (ps_if (PW.pt (pw_and (pt_cmpR op_isN (pv 3) pe_non (nomark _)) (pw_and1 (PW.pt (pw_or (pt_cmpR op_eq (pv 2) pe_int (nomark _)) (pw_or1 (pt_cmpR op_notN (pe_ix ix_tup (pv 1) (pe_ix ix_tup (pv 0) (pv 2) (fun _ _ => rfl)) (fun _ _ => rfl)) pe_non (nomark _)))))))) (pss_one (ps_ret (pv 2))) pss_nil)))
      (pss_one (ps_ret pe_non))), ?_⟩
  refine ⟨_, rfl, b, _, rfl, SqT.of hb, ?_⟩
  refine for_it (walk_enumT (xs := arV n g)) (fun i σ H' => (∃ u1 u2, σ = [some (.ref c), some (.ref b), u1, u2]) ∧ Same H H' ∧ i ≤ e) ⟨⟨_, _, rfl⟩, Same.refl', Nat.zero_le _⟩ (fun i σ H' _ x => SqT.of (x.2.1 _ _ hb)) ?_ ?_
  · rintro i x σ H1 H2 hi ⟨⟨u1, u2, rfl⟩, sm, ie⟩ ⟨T1, x1, y1, rfl, hT, rfl, e1, e2⟩
    cases e1
    obtain ⟨hin, rfl⟩ := arV_geti e2
    refine gpair upd_same ?_
    have sm2 := Same.tr sm (Same.new (o := .tup [.int (i : Nat), oV (g i)]) hT)
    refine ⟨_, rfl, rfl, _, rfl, ?_⟩
    have hob : ∀ bb, openB par g i = bb → (bb = true → i = e) ∧ (bb = false → i ≠ e) := fun bb h => ⟨fun hb => by
      subst hb
      rcases Nat.lt_or_ge i e with l | l
      · rw [ek i l] at h; cases h
      · omega, fun hb z => by subst hb; rw [z, eo] at h; cases h⟩
    have fail : openB par g i = false → i + 1 ≤ e := fun h => by have := (hob _ h).2 rfl; omega
    have win : openB par g i = true → i = e := fun h => (hob _ h).1 rfl
    unfold openB at fail win
    cases eg : g i with
    | some z =>
      rw [eg] at fail sm2
      exact iteF ⟨⟨_, _, rfl⟩, sm2, fail rfl⟩
    | none =>
      rw [eg] at fail win sm2
      refine ifT rfl ?_
      refine ⟨_, rfl, rfl, _, rfl, ?_⟩
      by_cases i0 : i = 0
      · subst i0
        refine ifT (decide_eq_true rfl) ?_
        refine ⟨_, rfl, ?_⟩
        have := win rfl
        subst this
        exact q _ sm2
      · refine ifF (decide_eq_false (by intro z; cases z; exact i0 rfl)) ?_
        have lt := ok.lt i (by omega) hin
        refine ⟨_, rfl, _, rfl, _, rfl, c, _, _, _, rfl, rfl, SqT.of (sm2 _ _ hc), chO_at hin (by omega), b, _, _, _, rfl, rfl, SqT.of (sm2 _ _ hb), arV_at (k := par i) (by omega), rfl, _, rfl, ?_⟩
        have e3 : (i == 0) = false := by simpa using i0
        rw [e3] at fail win
        cases e4 : g (par i) with
        | none =>
          rw [e4] at fail
          exact iteF ⟨⟨_, _, rfl⟩, sm2, fail rfl⟩
        | some z =>
          rw [e4] at win
          refine ifT rfl ⟨_, rfl, ?_⟩
          have := win rfl
          subst this
          exact q _ sm2
  · rintro σ H1 ⟨⟨u1, u2, rfl⟩, sm, ie⟩
    rw [arV_len] at ie
    omega
abbrev sp_StrictOffice_admit (A : Ad) : Sp := sp3 fun x y z H Q => ∃ o dx c b l d n par f es ss v e, x = .ref o ∧ y = .int v ∧ z = .int (e : Nat) ∧ Of A H o A.S dx c b l d n par f es ss ∧ 0 ≤ v ∧ ¬ Ppl f v ∧ e < n ∧ openB par f e = true ∧ (∀ k, k < e → openB par f k = false) ∧ es.length ≤ 100 ∧ ss.length ≤ 800 ∧
  ∀ b2 H' g, Valid n par g → (∀ y, Ppl g y ↔ Ppl f y ∨ y = v) → KpS [o, l, d] H H' → Of A H' o A.S dx c b2 l d n par g (es ++ [⟨b, ss.length, f⟩]) (ss ++ [.jn v e]) → Q (.ref b2) H'
theorem g_StrictOffice_admit (T : Fx K mg A) : Mf P w K mg base 6 (IsS A) "admit" ["self", "person", "post"] (sp_StrictOffice_admit A) := by
  refine mf3 T.d_StrictOffice_admit sc_StrictOffice_admit (fun _ _ _ _ _ _ us hl => match us, hl with | [_, _, _], _ => rfl) ?_
  rintro v1 v2 v3 f cdv A' outer s E H Q hr ⟨o, dx, c, b, l, d, n, par, g, es, ss, v, e, rfl, rfl, rfl, O, v0, nv, en, eo, ek, le', ls, q⟩
  refine ⟨_, (pss_cons (ps_set (i := 3) sc_StrictOffice_admit.nd rfl (by first | exact Or.inl rfl | exact Or.inr rfl) (pe_g (g_join T) hr (pa_cons (pe_fld (pv 0) rfl) (pa_cons (pe_fld (pv 0) rfl) (pa_cons (pv 1) (pa_cons (pv 2) pa_nil))))))
      (pss_cons (ps_if (pt_cmpR op_ne (pv 2) (pe_g (g_smallest_open T) hr (pa_cons (pe_fld (pv 0) rfl) (pa_cons (pe_fld (pv 0) rfl) pa_nil))) (nomark _)) pss_never pss_nil)
      (pss_one (ps_ret (pe_m (g_Office_put T) (.inr rfl) T.cl_S hr (pv 0) (pa_cons (pv 3) (pa_cons (pe_lst (pa_cons (pe_tup (pa_cons pe_str (pa_cons (pv 1) (pa_cons (pv 2) pa_nil)))) pa_nil)) pa_nil))))))), ?_⟩
  have cc := T.off O.io
  have op := (openB_iff en).mp eo
  refine ⟨_, rfl, o, A.S, dx, _, _, rfl, O.eo, cc.cl, cc.above, lO_above _ _ _ _, _, rfl, o, A.S, dx, _, _, rfl, O.eo, cc.cl, cc.now, lO_now _ _ _ _, _, rfl, _, rfl, ?_⟩
  refine ⟨c, b, n, par, g, v, e, rfl, rfl, rfl, rfl, O.ec, O.eb, O.ok, O.va, v0, nv, op, fun b2 H1 g2 s1 nb2 eb2 J => ?_⟩
  obtain ⟨vg2, pg2⟩ := J.valid O.ok O.va op nv v0
  have O1 := O.same s1
  refine ⟨_, rfl, _, rfl, o, A.S, dx, _, _, rfl, O1.eo, cc.cl, cc.above, lO_above _ _ _ _, _, rfl, o, A.S, dx, _, _, rfl, O1.eo, cc.cl, cc.now, lO_now _ _ _ _, ?_⟩
  refine ⟨c, b, n, par, g, e, rfl, rfl, O1.ec, O1.eb, O.ok, en, eo, ek, fun H2 s2' => ⟨rfl, _, rfl, ?_⟩⟩
  have s2 := Same.tr s1 s2'
  refine ifFn (decide_eq_true rfl) ?_
  have O2 := O.same s2
  refine ⟨_, rfl, o, dx, _, rfl, O2.eo, lO_put _ _ _ _, _, rfl, _, rfl, _, rfl, by show 3 ≤ sizeLine; decide, fun x hx => ⟨by show 1 ≤ sizeLine; decide, fun y hy => ?_⟩⟩
  have s3 : Same H2 (upd H2 x (.tup [.str "join", .int v, .int (e : Nat)])) := Same.new hx
  have s4 := Same.tr s3 (Same.new (o := .lst [.ref x]) hy)
  have hy2 := s3.free hy
  obtain ⟨n1, n2, _⟩ := O2.lne hy2
  have xy : x ≠ y := ne_of_none upd_same hy
  refine ⟨o, A.S, dx, c, b, l, d, n, par, g, es, ss, b2, g2, y, [.jn v e], rfl, rfl, rfl, O2.same s4, s4 _ _ (s2' _ _ eb2), vg2, ⟨[x], upd_same, .cons ?_ .nil⟩, n1, n2, le', by show _ + 1 ≤ 900; omega, fun H4 k4 O4 => ?_⟩
  · show upd _ _ _ x = _
    rw [upd_ne xy]; exact upd_same
  · exact q b2 H4 g2 vg2 pg2 (KpS.after (Same.tr s2 s4) k4) O4
end MV
end

section
set_option Elab.async false
set_option autoImplicit false
set_option linter.all false
set_option maxRecDepth 100000
set_option maxHeartbeats 4000000
namespace MV
open PySem PySem.Spec PyProof.Rows L2 L3 MU PySem.W
variable {P : Program} {w : World} {K : PySem.W.Frag} {mg : Str → Option Value} {base : Heap} {A : Ad}
theorem ps_withM {X : Cx} {ctx : Expr} {y : Str} {py pos : Pos} {body : List Stmt} {te : TE} {tb : TS} {i k k1 k2 : Nat} {C : Addr} {Cs : Addr → Prop} {psE psX : List Str} {spE spX : Sp} (hN : X.N.Nodup) (hi : X.N[i]? = some y) (hy : Loc X.env.scope y) (hn : ∀ e s, ¬ X.xe e s)
    (GE : Mf X.prog X.w X.K X.mg X.base k1 Cs "__enter__" psE spE) (GX : Mf X.prog X.w X.K X.mg X.base k2 Cs "__exit__" psX spX) (hC : Cs C) (hr : Room k X.A) (he : PE X ctx te) (hb : PSs X body tb) (h1 : k1 ≤ k := by decide) (h2 : k2 ≤ k := by decide)
    (hf : X.fn y = true ∨ X.env.scope.names.lookup y = some .local := by first | exact .inl rfl | exact .inr rfl | assumption) :
    PS X (.With [⟨ctx, some (.Name y py)⟩] body pos) (tWith C spE spX i te tb) := by
  obtain ⟨fe, fde, mE, bE, FE⟩ := GE
  obtain ⟨fx, fdx, mX, bX, FX⟩ := GX
  exact ps_with hN hi hy hn he (mE C hC) (mX C hC) (FE.mono h1) (FX.mono h2) bE bX hr hb hf
/-- the trial's end: nothing has changed -/
theorem trial_end {H H2 H3 H4 : Hp} {o C dx c b l d l2 d2 : Addr} {n : Nat} {par : Nat → Nat} {f : Nat → Option Int} {es : List Ent} {ss : List Stp} (O : Of A H o C dx c b l d n par f es ss) (nl : H l2 = none) (nd : H d2 = none) (k2 : Kp o H H2) (k3 : KpS [o, l2, d2] H2 H3) (k4 : Kp o H3 H4)
    (e4 : H4 o = some (.ins C dx (fO (.ref c) (.ref b) (.ref l) (.ref d)))) : Same H H4 := fun x u e => by
  by_cases c : x = o
  · subst c; rw [O.eo] at e; cases e; exact e4
  · refine k4 _ _ c (k3 _ _ ?_ (k2 _ _ c e))
    intro hm
    rcases List.mem_cons.mp hm with rfl | hm
    · exact c rfl
    · rcases List.mem_cons.mp hm with rfl | hm
      · rw [nl] at e; cases e
      · rcases List.mem_cons.mp hm with rfl | hm
        · rw [nd] at e; cases e
        · cases hm
/-- behind __enter__ -/
theorem Of.enter {H H2 : Hp} {o C dx c b l d l2 d2 : Addr} {n : Nat} {par : Nat → Nat} {f : Nat → Option Int} {es : List Ent} {ss : List Stp} (O : Of A H o C dx c b l d n par f es ss) (ld : l2 ≠ d2) (k2 : Kp o H H2) (e2 : H2 o = some (.ins C dx (fO (.ref c) (.ref b) (.ref l2) (.ref d2))))
    {us vs : List V} (hl : H l = some (.lst us)) (hd : H d = some (.lst vs)) (hl2 : H2 l2 = some (.lst us)) (hd2 : H2 d2 = some (.lst vs)) : Of A H2 o C dx c b l2 d2 n par f es ss := by
  have kt : ∀ p xs, H p = some (.tup xs) → H2 p = some (.tup xs) := fun p xs e => k2 _ _ (ne_of e O.eo (by intro z; cases z)) e
  obtain ⟨qs, el, pa⟩ := O.el
  obtain ⟨ds, ed, pd⟩ := O.ed
  rw [el] at hl; cases hl
  rw [ed] at hd; cases hd
  exact ⟨O.io, e2, kt _ _ O.ec, kt _ _ O.eb, O.ok, O.va, ld, ⟨qs, hl2, paired_up pa fun x e h => h.keep kt⟩, O.ve, ⟨ds, hd2, paired_up pd fun x e h => h.keep fun xs z => kt _ _ z⟩⟩
abbrev sp_Office_rehearse (A : Ad) : Sp := sp2 fun x y H Q => ∃ o dx c b l d n par f es ss p ss2 g, x = .ref o ∧ y = .ref p ∧ Of A H o A.O dx c b l d n par f es ss ∧ StL H p ss2 ∧ PlaysTo n par f ss2 g ∧ es.length ≤ 100 ∧ ss.length + ss2.length ≤ 900 ∧
  ∀ b2 H', Same H H' → H' b2 = some (.tup (arV n g)) → Q (.ref b2) H'
theorem g_Office_rehearse (T : Fx K mg A) : Mf P w K mg base 7 (IsF A) "rehearse" ["self", "plan"] (sp_Office_rehearse A) := by
  refine mf2 T.d_Office_rehearse sc_Office_rehearse (fun _ _ _ _ _ _ us hl => match us, hl with | [_, _], _ => rfl) ?_
  rintro v1 v2 f cdv A' outer s E H Q hr ⟨o, dx, c, b, l, d, n, par, g, es, ss, p, ss2, g2, rfl, rfl, O, hp, pt, le', ls, q⟩
  refine ⟨_, (pss_one (ps_withM (i := 2) sc_Office_rehearse.nd rfl (by first | exact Or.inl rfl | exact Or.inr rfl) (fun _ _ z => z) (g_Trial_enter T) (g_Trial_exit T) rfl hr (pe_mk (g_Trial_init T) hr (pa_cons (pv 0) pa_nil))
      (pss_one (ps_ret (pe_m (g_Office_play T) rfl T.cl_O hr (pv 2) (pa_cons (pv 1) pa_nil)))))), ?_⟩
  refine ⟨_, rfl, fun t dxt ht hdx hne => ⟨t, dxt, o, A.O, dx, _, _, _, _, rfl, rfl, upd_same, O.io, mk1 O.eo ht hdx, fun H1 k1 e1 => ⟨rfl, ?_⟩⟩⟩
  have s1 := mk2 ht hdx k1
  have O1 := O.same s1
  obtain ⟨us, hus⟩ : ∃ us, H1 l = some (.lst us) := by obtain ⟨qs, el, _⟩ := O1.el; exact ⟨_, el⟩
  obtain ⟨vs, hvs⟩ : ∃ vs, H1 d = some (.lst vs) := by obtain ⟨qs, el, _⟩ := O1.ed; exact ⟨_, el⟩
  refine ⟨t, dxt, _, rfl, e1, t, dxt, o, A.O, dx, .ref c, .ref b, l, d, us, vs, rfl, e1, O.io, O1.eo, hus, hvs, fun l2 d2 H2 nl2 nd2 ld2 k2 e2 f2 g2' => ?_⟩
  have O2 := O1.enter ld2 k2 e2 hus hvs f2 g2'
  have hp2 : StL H2 p ss2 := (hp.same s1).keep (fun xs e => k2 _ _ (ne_of e O1.eo (by intro z; cases z)) e) fun p xs e => k2 _ _ (ne_of e O1.eo (by intro z; cases z)) e
  obtain ⟨pp, ep, _⟩ := id hp
  have pl : p ≠ l2 := ne_of_none (s1 _ _ ep) nl2
  have pd : p ≠ d2 := ne_of_none (s1 _ _ ep) nd2
  have to : t ≠ o := (ne_of_none O.eo ht).symm
  refine ⟨_, rfl, o, dx, _, rfl, O2.eo, lO_play _ _ _ _, _, rfl, o, dx, c, b, l2, d2, n, par, g, es, ss, p, ss2, g2, rfl, rfl, O2, hp2, pl, pd, pt, le', ls, fun b2 H3 k3 O3 => ?_⟩
  have et3 : H3 t = some (.ins A.R dxt (fR (.ref o) (.ref b) (.ref l) (.ref d))) := by
    refine k3 _ _ (fun hm => ?_) (k2 _ _ to e1)
    rcases List.mem_cons.mp hm with z | hm
    · exact to z
    · rcases List.mem_cons.mp hm with z | hm
      · exact ne_of_none e1 nl2 z
      · rcases List.mem_cons.mp hm with z | hm
        · exact ne_of_none e1 nd2 z
        · cases hm
  refine ⟨t, dxt, o, A.O, dx, .ref c, .ref b, .ref l, .ref d, .ref b2, .ref l2, .ref d2, rfl, et3, O.io, O3.eo, fun H4 k4 e4 => ?_⟩
  have s4 := trial_end O1 nl2 nd2 k2 k3 k4 e4
  exact q b2 H4 (Same.tr s1 s4) (k4 _ _ (ne_of O3.eb O3.eo (by intro z; cases z)) O3.eb)
def a_Office_preview (A : Ad) : List V → Hp → VK → Prop := fun vs H Q => ∃ o dx c b l d n par f es ss p xs, vs = [.ref o, .ref p] ∧ Of A H o A.O dx c b l d n par f es ss ∧ H p = some (.tup (xs.map V.int)) ∧ xs.Nodup ∧ (∀ x ∈ xs, Ppl f x) ∧ xs.length ≤ 8 ∧ es.length ≤ 100 ∧ ss.length ≤ 800 ∧
  ∀ b2 H' g, Lvs n par f xs g → Same H H' → H' b2 = some (.tup (arV n g)) → Q (.ref b2) H'
theorem g_Office_preview (T : Fx K mg A) : ∃ f, (∀ C, IsF A C → Meth K C "preview" f) ∧ FnR P w K mg base CX0 7 f (starSp 1 (a_Office_preview A)) := by
  obtain ⟨f, fd, hb, F⟩ := T.d_Office_preview
  refine ⟨f, hb, fr_star (ps := ["self"]) F sc_Office_preview (fun kV doc pm an cdv ct => StX.bind_star1 (B := fun us => bindArgs (PySem.W.fnOf "preview" "Office.preview" (defArgs s_Office_preview) (defBody s_Office_preview) (defScope s_Office_preview) .none kV doc pm an cdv ct) ⟨us, []⟩) (p1 := "self") (pv := "people") (fun _ => rfl) (fun _ _ _ => rfl)) ?_⟩
  obtain ⟨gl, hbm, FL⟩ := g_Office_leave (P := P) (w := w) (base := base) T
  rintro vs f cdv A' outer s E H Q hr ⟨o, dx, c, b, l, d, n, par, g, es, ss, p, xs, rfl, O, hp, nd, hx, lx, le', ls, q⟩
  refine ⟨_, (pss_one (ps_withM (i := 2) sc_Office_preview.nd rfl (by first | exact Or.inl rfl | exact Or.inr rfl) (fun _ _ z => z) (g_Trial_enter T) (g_Trial_exit T) rfl hr (pe_mk (g_Trial_init T) hr (pa_cons (pv 0) pa_nil))
      (pss_one (ps_ret (pe_methS (pv 2) T.cl_O (hbm _ rfl) FL (hr.mono (by decide)) pass0 (pv 1)))))), ?_⟩
  refine ⟨_, rfl, fun t dxt ht hdx hne => ⟨t, dxt, o, A.O, dx, _, _, _, _, rfl, rfl, upd_same, O.io, mk1 O.eo ht hdx, fun H1 k1 e1 => ⟨rfl, ?_⟩⟩⟩
  have s1 := mk2 ht hdx k1
  have O1 := O.same s1
  obtain ⟨us, hus⟩ : ∃ us, H1 l = some (.lst us) := by obtain ⟨qs, el, _⟩ := O1.el; exact ⟨_, el⟩
  obtain ⟨vs, hvs⟩ : ∃ vs, H1 d = some (.lst vs) := by obtain ⟨qs, el, _⟩ := O1.ed; exact ⟨_, el⟩
  refine ⟨t, dxt, _, rfl, e1, t, dxt, o, A.O, dx, .ref c, .ref b, l, d, us, vs, rfl, e1, O.io, O1.eo, hus, hvs, fun l2 d2 H2 nl2 nd2 ld2 k2 e2 f2 g2' => ?_⟩
  have O2 := O1.enter ld2 k2 e2 hus hvs f2 g2'
  have to : t ≠ o := (ne_of_none O.eo ht).symm
  have hp2 : H2 p = some (.tup (xs.map V.int)) := k2 _ _ (ne_of (s1 _ _ hp) O1.eo (by intro z; cases z)) (s1 _ _ hp)
  refine ⟨_, rfl, o, dx, _, rfl, O2.eo, lO_leave _ _ _ _, fun m hm => ?_⟩
  have sm : Same H2 (upd H2 m (.met gl o)) := Same.new hm
  refine ⟨_, rfl, p, _, rfl, SqT.of (sm _ _ hp2), upd_same, ?_⟩
  refine ⟨[.ref o], xs.map V.int, rfl, rfl, by rw [List.length_map]; exact Nat.le_of_lt (small1000 (by omega)), fun p2 hp2' => ?_⟩
  have sm2 := Same.tr sm (Same.new (o := .tup (xs.map V.int)) hp2')
  refine ⟨o, dx, c, b, l2, d2, n, par, g, es, ss, p2, xs, rfl, O2.same sm2, upd_same, nd, hx, lx, le', ls, fun b2 H3 g2 lv k3 O3 => ?_⟩
  have k3 := KpS.after sm2 k3
  have et3 : H3 t = some (.ins A.R dxt (fR (.ref o) (.ref b) (.ref l) (.ref d))) := by
    refine k3 _ _ (fun hm => ?_) (k2 _ _ to e1)
    rcases List.mem_cons.mp hm with z | hm
    · exact to z
    · rcases List.mem_cons.mp hm with z | hm
      · exact ne_of_none e1 nl2 z
      · rcases List.mem_cons.mp hm with z | hm
        · exact ne_of_none e1 nd2 z
        · cases hm
  refine ⟨t, dxt, o, A.O, dx, .ref c, .ref b, .ref l, .ref d, .ref b2, .ref l2, .ref d2, rfl, et3, O.io, O3.eo, fun H4 k4 e4 => ?_⟩
  have s4 := trial_end O1 nl2 nd2 k2 k3 k4 e4
  exact q b2 H4 g2 lv (Same.tr s1 s4) (k4 _ _ (ne_of O3.eb O3.eo (by intro z; cases z)) O3.eb)
end MV
end

section
set_option Elab.async false
set_option autoImplicit false
set_option linter.all false
set_option maxRecDepth 100000
set_option maxHeartbeats 4000000
namespace MV
open PySem PySem.Spec PyProof.Rows L2 L3 MU PySem.W
variable {P : Program} {w : World} {K : PySem.W.Frag} {mg : Str → Option Value} {base : Heap} {A : Ad}
abbrev sp_law_cell (K : PySem.W.Frag) : Sp := sp2 fun x y H Q => ∃ (a : Addr) (ns : List Int) (i : Nat), x = .ref a ∧ y = .int (i : Nat) ∧ SqL K H a (ns.map V.int) ∧ ∀ z, Q (.int z) H
theorem g_law_cell (T : Fx K mg A) : Gf P w K mg base 1 "_law_cell" ["_law_script", "_law_index"] (sp_law_cell K) := by
  refine gf2 T.d_law_cell sc_law_cell (fun _ _ _ _ _ _ us hl => match us, hl with | [_, _], _ => rfl) ?_
  rintro v1 v2 f cdv A' outer s E H Q hr ⟨a, ns, i, rfl, rfl, ha, q⟩
  refine ⟨_, (pss_cons (ps_if (pt_cmpR op_lt (pv 1) (pe_callB call_len_seq (by rfl) T.b_len (by decide +kernel) (pa_cons (pv 0) pa_nil)) (nomark _)) (pss_one (ps_ret (pe_ix ix_list (pv 0) (pv 1) (fun _ _ => rfl)))) pss_nil)
      (pss_one (ps_ret pe_int))), ?_⟩
  refine ⟨_, rfl, _, rfl, a, _, rfl, .inl ha, _, _, rfl, rfl, _, rfl, ?_⟩
  by_cases h : i < ns.length
  · refine ifT (decide_eq_true (by rw [List.length_map]; omega)) ?_
    refine ⟨_, rfl, _, rfl, a, _, _, .int ns[i], rfl, rfl, ha, atI_nat (by rw [List.getElem?_map]; simp [h]), q _⟩
  · refine ifF (decide_eq_false (by rw [List.length_map]; omega)) (q 0)
theorem mulL {i j : Int} (h1 : -(2 ^ 64) < i) (h2 : i < 2 ^ 64) : CMul i j := .inl ⟨h1, h2⟩
theorem mulR {i j : Int} (h1 : -(2 ^ 64) < j) (h2 : j < 2 ^ 64) : CMul i j := .inr ⟨h1, h2⟩
abbrev sp_law_hash : Sp := sp2 fun x y H Q => ∃ b i : Int, x = .int b ∧ y = .int i ∧ 0 ≤ b ∧ b < 2147483647 ∧ 0 ≤ i ∧ i < 2 ^ 60 ∧ ∀ z, 0 ≤ z → z < 2147483587 → Q (.int z) H
theorem g_law_hash (T : Fx K mg A) : Gf P w K mg base 1 "_law_hash" ["_law_seed", "_law_index"] (sp_law_hash) := by
  refine gf2 T.d_law_hash sc_law_hash (fun _ _ _ _ _ _ us hl => match us, hl with | [_, _], _ => rfl) ?_
  rintro v1 v2 f cdv A' outer s E H Q hr ⟨b, i, rfl, rfl, b0, b1, i0, i1, q⟩
  refine ⟨_, (pss_cons (ps_set (i := 2) sc_law_hash.nd rfl (by first | exact Or.inl rfl | exact Or.inr rfl) (pe_op op_modN (pe_callTy call_int1 (by rfl) T.b_int (by decide +kernel) (pa_cons (pe_op op_add (pe_op op_add (pe_op op_add (pe_op op_mul (pv 0) pe_int) (pe_op op_mul (pe_op op_mul pe_int (pv 1)) (pv 1))) (pv 1)) pe_int) pa_nil)) pe_int))
      (pss_cons (ps_set (i := 2) sc_law_hash.nd rfl (by first | exact Or.inl rfl | exact Or.inr rfl) (pe_op op_modN (pe_callTy call_int1 (by rfl) T.b_int (by decide +kernel) (pa_cons (pe_op op_add (pe_op op_mul (pv 2) (pv 2)) pe_int) pa_nil)) pe_int))
      (pss_one (ps_ret (pe_op op_modN (pe_callTy call_int1 (by rfl) T.b_int (by decide +kernel) (pa_cons (pe_op op_mul (pv 2) pe_int) pa_nil)) pe_int))))), ?_⟩
  refine ⟨_, rfl, _, _, rfl, rfl, mulL (by omega) (by omega), _, rfl, _, _, rfl, rfl, mulL (by decide) (by decide), _, rfl, _, _, rfl, rfl, mulR (by omega) (by omega), _, _, rfl, rfl, _, rfl, _, _, rfl, rfl, _, _, rfl, rfl, .inl ⟨_, rfl, _, _, rfl, rfl, (by show (2147483647 : Int) ≠ 0; decide), ?_⟩⟩
  generalize b * 1103515245 + 7919 * i * i + i + 1 = m1
  have a1 := Int.fmod_nonneg_of_pos m1 (b := 2147483647) (by decide)
  have a2 := Int.fmod_lt_of_pos m1 (b := 2147483647) (by decide)
  generalize hm2 : m1.fmod 2147483647 = m2 at a1 a2
  refine ⟨_, rfl, _, rfl, _, _, rfl, rfl, mulL (by rw [hm2]; omega) (by rw [hm2]; omega), _, _, rfl, rfl, .inl ⟨_, rfl, _, _, rfl, rfl, (by show (2147483629 : Int) ≠ 0; decide), ?_⟩⟩
  rw [hm2]
  generalize m2 * m2 + 69621 = m3
  have c1 := Int.fmod_nonneg_of_pos m3 (b := 2147483629) (by decide)
  have c2 := Int.fmod_lt_of_pos m3 (b := 2147483629) (by decide)
  refine ⟨_, rfl, _, _, rfl, rfl, mulL (by omega) (by omega), .inl ⟨_, rfl, _, _, rfl, rfl, (by show (2147483587 : Int) ≠ 0; decide), ?_⟩⟩
  exact q _ (Int.fmod_nonneg_of_pos _ (by decide)) (Int.fmod_lt_of_pos _ (by decide))
/-! ### the generator -/
def GenAt (H : Hp) (g : Addr) (c : Int) : Prop := ∃ a b k : Int, H g = some (.lst [.int a, .int b, .int k]) ∧ 0 ≤ a ∧ 0 ≤ b ∧ b < 2147483647 ∧ 0 ≤ k ∧ k ≤ c
theorem GenAt.mono {H : Hp} {g : Addr} {c c' : Int} (h : GenAt H g c) (l : c ≤ c') : GenAt H g c' := by
  obtain ⟨a, b, k, e, h1, h2, h3, h4, h5⟩ := h
  exact ⟨a, b, k, e, h1, h2, h3, h4, by omega⟩
theorem GenAt.same {H H' : Hp} {g : Addr} {c : Int} (h : GenAt H g c) (s : Same H H') : GenAt H' g c := by
  obtain ⟨a, b, k, e, h'⟩ := h
  exact ⟨a, b, k, s _ _ e, h'⟩
theorem GenAt.ne {H : Hp} {g x : Addr} {c : Int} (h : GenAt H g c) (n : H x = none) : x ≠ g := by
  obtain ⟨a, b, k, e, h'⟩ := h
  exact (ne_of_none e n).symm
abbrev sp_law_generator (K : PySem.W.Frag) : Sp := sp2 fun x y H Q => ∃ (a : Addr) (ns : List Int) (i : Nat), x = .ref a ∧ y = .int (i : Nat) ∧ SqL K H a (ns.map V.int) ∧ i ≤ 10 ∧ ∀ g H', Same H H' → H g = none → GenAt H' g 10000 → Q (.ref g) H'
theorem g_law_generator (T : Fx K mg A) : Gf P w K mg base 2 "_law_generator" ["_law_script", "_law_index"] (sp_law_generator K) := by
  refine gf2 T.d_law_generator sc_law_generator (fun _ _ _ _ _ _ us hl => match us, hl with | [_, _], _ => rfl) ?_
  rintro v1 v2 f cdv A' outer s E H Q hr ⟨a, ns, i, rfl, rfl, ha, hi, q⟩
  refine ⟨_, (pss_cons (ps_set (i := 2) sc_law_generator.nd rfl (by first | exact Or.inl rfl | exact Or.inr rfl) (pe_g (g_law_cell T) hr (pa_cons (pv 0) (pa_cons (pv 1) pa_nil))))
      (pss_one (ps_ret (pe_lst (pa_cons (pe_op op_modN (pe_callTy call_int1 (by rfl) T.b_int (by decide +kernel) (pa_cons (pe_callB (call_max2 rfl) (by rfl) T.b_max (by decide +kernel) (pa_cons (pe_op op_sub (pv 2) (pe_op op_powW pe_int pe_int)) (pa_cons pe_int pa_nil))) pa_nil)) (pe_op op_powW (pe_op op_powW pe_int pe_int) pe_int)) (pa_cons (pe_op op_modN (pe_callTy call_int1 (by rfl) T.b_int (by decide +kernel) (pa_cons (pv 2) pa_nil)) pe_int) (pa_cons (pe_op op_mul pe_int (pv 1)) pa_nil))))))), ?_⟩
  refine ⟨_, rfl, _, rfl, a, ns, i, rfl, rfl, ha, fun z => ?_⟩
  refine ⟨_, rfl, _, _, rfl, rfl, ⟨by decide, by decide⟩, _, _, rfl, rfl, _, _, rfl, .inl ⟨_, rfl, ?_⟩⟩
  refine ⟨_, _, rfl, rfl, ⟨by decide, by decide⟩, _, _, rfl, rfl, ⟨by decide, by decide +kernel⟩, _, _, rfl, rfl, (by show (((10 : Int) ^ Int.toNat 60) ^ Int.toNat 10) ≠ 0; decide +kernel), ?_⟩
  refine ⟨_, rfl, .inl ⟨_, rfl, _, _, rfl, rfl, (by show (2147483647 : Int) ≠ 0; decide), ?_⟩⟩
  refine ⟨_, rfl, _, _, rfl, rfl, mulL (by decide) (by decide), by show 3 ≤ sizeLine; decide, fun g ng => ?_⟩
  refine q g _ (Same.new ng) ng ⟨_, _, _, upd_same, Int.fmod_nonneg_of_pos _ (by decide +kernel), Int.fmod_nonneg_of_pos _ (by decide), Int.fmod_lt_of_pos _ (by decide), by omega, by omega⟩
/-! ### random -/
theorem bits30 {m : Int} (h0 : 1 ≤ m) (h1 : m ≤ 1000000000) : (Builtin.Int.intBits m : Int) ≤ 30 := by
  unfold Builtin.Int.intBits
  have : (m == 0) = false := by simp; omega
  rw [this]
  have h2 : m.natAbs.log2 < 30 := (Nat.log2_lt (by omega)).mpr (by omega)
  simp; omega
abbrev sp_law_random : Sp := sp2 fun x y H Q => ∃ (g : Addr) (m c : Int), x = .ref g ∧ y = .int m ∧ GenAt H g c ∧ c ≤ 2 ^ 40 ∧ 1 ≤ m ∧ m ≤ 1000000000 ∧ ∀ z H', 0 ≤ z → z < m → Kp g H H' → GenAt H' g (c + 2) → Q (.int z) H'
theorem g_law_random (T : Fx K mg A) : Gf P w K mg base 2 "_law_random" ["_law_generator_here", "_law_bound"] (sp_law_random) := by
  refine gf2 T.d_law_random sc_law_random (fun _ _ _ _ _ _ us hl => match us, hl with | [_, _], _ => rfl) ?_
  rintro v1 v2 f cdv A' outer s E H Q hr ⟨g, m, c, rfl, rfl, ⟨a, b, k, e, a0, b0, b1, k0, k1⟩, c40, m1, m2, q⟩
  refine ⟨_, (pss_cons (ps_if (pt_cmpR op_gt (pe_ix ix_list (pv 0) pe_int (fun _ _ => rfl)) pe_int (nomark _)) (pss_cons (ps_set (i := 2) sc_law_random.nd rfl (by first | exact Or.inl rfl | exact Or.inr rfl) (pe_op op_modN (pe_callTy call_int1 (by rfl) T.b_int (by decide +kernel) (pa_cons (pe_ix ix_list (pv 0) pe_int (fun _ _ => rfl)) pa_nil)) (pv 1)))
      (pss_cons (ps_asg (pe_op op_fdivN (pe_ix ix_list (pv 0) pe_int (fun _ _ => rfl)) (pv 1)) (pg_sub (pv 0) pe_int set_list))
      (pss_one (ps_ret (pv 2))))) pss_nil)
      (pss_cons (ps_set (i := 2) sc_law_random.nd rfl (by first | exact Or.inl rfl | exact Or.inr rfl) pe_int)
      (pss_cons (ps_for PassesOwn.never rfl (pi_range1 (by rfl) T.b_range (pa_cons (pe_op op_add pe_int (pe_op op_fdivN (pe_bits (pv 1)) pe_int)) pa_nil)) (pg_name (i := 3) sc_law_random.nd rfl (by first | exact Or.inl rfl | exact Or.inr rfl))
      (pss_cons (ps_asg (pe_op op_add (pe_ix ix_list (pv 0) pe_int (fun _ _ => rfl)) pe_int) (pg_sub (pv 0) pe_int set_list))
      (pss_one (ps_set (i := 2) sc_law_random.nd rfl (by first | exact Or.inl rfl | exact Or.inr rfl) (pe_op op_add (pe_op op_mul (pv 2) pe_int) (pe_g (g_law_hash T) hr (pa_cons (pe_ix ix_list (pv 0) pe_int (fun _ _ => rfl)) (pa_cons (pe_ix ix_list (pv 0) pe_int (fun _ _ => rfl)) pa_nil))))))))
      (pss_one (ps_ret (pe_op op_modN (pe_callTy call_int1 (by rfl) T.b_int (by decide +kernel) (pa_cons (pv 2) pa_nil)) (pv 1))))))), ?_⟩
  refine ⟨_, rfl, g, _, 0, _, rfl, rfl, SqL.of e, rfl, _, _, rfl, rfl, _, rfl, ?_⟩
  by_cases ha : 0 < a
  · refine ifT (decide_eq_true ha) ?_
    refine ⟨_, rfl, g, _, 0, _, rfl, rfl, SqL.of e, rfl, .inl ⟨_, rfl, _, rfl, _, _, rfl, rfl, by omega, ?_⟩⟩
    refine ⟨_, rfl, g, _, 0, _, rfl, rfl, SqL.of e, rfl, _, rfl, _, _, rfl, rfl, ⟨by omega, by omega⟩, ?_⟩
    refine ⟨_, rfl, g, _, 0, 0, rfl, rfl, e, rfl, ?_⟩
    refine ⟨_, rfl, q _ _ (Int.fmod_nonneg_of_pos _ (by omega)) (Int.fmod_lt_of_pos _ (by omega)) Kp.upd_ ?_⟩
    exact ⟨a.fdiv m, b, k, upd_same, Int.fdiv_nonneg (by omega) (by omega), b0, b1, k0, by omega⟩
  · refine ifF (decide_eq_false ha) ?_
    have hb := bits30 m1 m2
    refine ⟨_, rfl, _, rfl, _, _, rfl, rfl, ⟨by decide, by decide⟩, _, _, rfl, rfl, ?_⟩
    have hf : (1 + ((Builtin.Int.intBits m : Int)).fdiv 30) ≤ 2 ∧ 0 ≤ (1 + ((Builtin.Int.intBits m : Int)).fdiv 30) := by
      have h1 := Int.fdiv_nonneg (a := (Builtin.Int.intBits m : Int)) (b := 30) (by omega) (by decide)
      have h2 : ((Builtin.Int.intBits m : Int)).fdiv 30 ≤ 1 := by
        rw [Int.fdiv_eq_ediv_of_nonneg _ (by decide)]
        omega
      omega
    generalize hN : 1 + ((Builtin.Int.intBits m : Int)).fdiv 30 = N at hf
    refine ⟨N, congrArg (fun z => [V.int z]) hN, by omega, by omega, ?_⟩
    refine for_it walk_range (fun i σ H' => (∃ (dr : Int) (u : Option V), σ = [some (.ref g), some (.int m), some (.int dr), u]) ∧ Kp g H H' ∧ H' g = some (.lst [.int a, .int b, .int (k + (i : Nat))])) ⟨⟨0, _, rfl⟩, Kp.same Same.refl', by rw [show k + ((0 : Nat) : Int) = k from Int.add_zero k]; exact e⟩ (fun i σ H' _ _ => trivial) ?_ ?_
    · rintro i x σ H1 H2 hi ⟨⟨dr, u, rfl⟩, kp, e1⟩ ⟨rfl, rfl⟩
      refine ⟨_, rfl, g, _, 2, _, rfl, rfl, SqL.of e1, rfl, _, _, rfl, rfl, _, rfl, g, _, 2, 2, rfl, rfl, e1, rfl, ?_⟩
      have e2 : upd H2 g (.lst ([V.int a, .int b, .int (k + (i : Nat))].set 2 (.int (k + (i : Nat) + 1)))) g = some (.lst [.int a, .int b, .int (k + (i : Nat) + 1)]) := upd_same
      refine ⟨_, rfl, _, _, rfl, rfl, mulR (by decide) (by decide), _, rfl, g, _, 1, _, rfl, rfl, SqL.of e2, rfl, _, rfl, g, _, 2, _, rfl, rfl, SqL.of e2, rfl, b, _, rfl, rfl, b0, b1, by omega, by omega, fun z z0 z1 => ?_⟩
      refine ⟨_, _, rfl, rfl, ⟨_, _, rfl⟩, Kp.tr kp Kp.upd_, e2.trans ?_⟩
      have : (k + ((i + 1 : Nat) : Int)) = k + (i : Nat) + 1 := by omega
      rw [this]
    · rintro σ H1 ⟨⟨dr, u, rfl⟩, kp, e1⟩
      refine ⟨_, rfl, .inl ⟨_, rfl, _, rfl, _, _, rfl, rfl, by omega, ?_⟩⟩
      exact q _ _ (Int.fmod_nonneg_of_pos _ (by omega)) (Int.fmod_lt_of_pos _ (by omega)) kp ⟨a, b, _, e1, a0, b0, b1, by omega, by omega⟩
end MV
end

section
set_option Elab.async false
set_option autoImplicit false
set_option linter.all false
set_option maxRecDepth 100000
set_option maxHeartbeats 4000000
namespace MV
open PySem PySem.Spec PyProof.Rows L2 L3 MU PySem.W
variable {P : Program} {w : World} {K : PySem.W.Frag} {mg : Str → Option Value} {base : Heap} {A : Ad}
theorem pe_bmK (K : PySem.W.Frag) {X : Cx} {o e : Expr} {es : List Expr} {to : TE} {t : TA} {name : Str} {apos cpos : Pos} {T id : String} {r : V → List V → Hp → VK → Prop} (pa : PlainAttrs T) (slot : Slot T name id) (hty : typeOf (.builtin id) = pure (.type "method_descriptor")) (hm : MtR X id r) (ho : PE X o to) (ha : PA X (e :: es) t)
    (hbase : attributeBase o name X.env (eval o X.env) = eval o X.env := by rfl)
    (hfew : ((backTo cpos (starEach (e :: es) X.env)).all (fun x => !x.1) && (backToKw cpos (keywordEach [] X.env)).all (fun x => x.1.isSome)
      && decide ((e :: es).length + ([] : List Keyword).length + (if ([] : List Keyword).isEmpty then 0 else 1) < 30)) = true := by rfl)
    (hline : (apos.endLine == cpos.line) = true := by rfl) (hs : starEach (e :: es) X.env = (false, eval e X.env) :: starEach es X.env := by rfl) (hplain : (backTo cpos (starEach es X.env)).any (·.1) = false := by rfl) (h : X.K = K := by rfl) :
    PE X (.Call (.Attribute o name apos) (e :: es) [] cpos) (tBM K T r to t) := by
  subst h
  exact pe_bm pa slot hty hm ho ha hbase hfew hline hs hplain
theorem catA_all {K : PySem.W.Frag} {H : Hp} {a b : Addr} {xs ys : List V} {Q : VK} (ha : H a = some (.tup xs)) (hb : H b = some (.tup ys)) (hz : xs.length + ys.length ≤ 1000) (q : ∀ p H', Same H H' → H' p = some (.tup (xs ++ ys)) → Q (.ref p) H') : rCatA K (.ref a) (.ref b) H Q := by
  refine ⟨a, b, xs, ys, rfl, rfl, SqT.of ha, SqT.of hb, Nat.le_of_lt (small1000 hz), fun h => ?_, fun _ h => ?_, fun _ _ p hp => q p _ (Same.new hp) upd_same⟩
  · subst h; exact q b H Same.refl' hb
  · subst h; exact q a H Same.refl' (by rw [List.append_nil]; exact ha)
theorem slA_all {K : PySem.W.Frag} {H : Hp} {a : Addr} {xs : List V} {lo hi : Option Int} {Q : VK} (ha : H a = some (.tup xs)) (q : ∀ p H', Same H H' → H' p = some (.tup (cutV xs lo hi)) → Q (.ref p) H') : rSlA K (.ref a) lo hi H Q := by
  refine ⟨a, xs, rfl, SqT.of ha, fun ⟨h1, h2⟩ => q a H Same.refl' ?_, fun _ p hp => q p _ (Same.new hp) upd_same⟩
  unfold cutV
  rw [h1, h2, List.drop_zero, Nat.sub_zero, List.take_length]
  exact ha
theorem cutV_drop {xs : List V} {k : Nat} : cutV xs (some (k : Int)) none = xs.drop k := by
  unfold cutV
  have e1 : HT.sIx xs.length xs.length none = xs.length := rfl
  rw [e1, HT.sIx_nat, List.take_of_length_le (by rw [List.length_drop]; exact Nat.le_refl _)]
  rcases Nat.lt_or_ge k xs.length with h | h
  · rw [Nat.min_eq_left (by omega)]
  · rw [Nat.min_eq_right h, List.drop_eq_nil_of_le (Nat.le_refl _), List.drop_eq_nil_of_le h]
theorem GenAt.upd_ {H : Hp} {g x : Addr} {c : Int} {o : HO} (h : GenAt H g c) (n : x ≠ g) : GenAt (upd H x o) g c := by
  obtain ⟨a, b, k, e, h'⟩ := h
  exact ⟨a, b, k, by rw [upd_ne n.symm]; exact e, h'⟩
theorem perm_erase {l : List Int} {k : Nat} (h : k < l.length) : (l[k] :: l.eraseIdx k).Perm l := by
  rw [List.eraseIdx_eq_take_drop_succ]
  conv => rhs; rw [← List.take_append_drop k l, List.drop_eq_getElem_cons h]
  exact List.perm_middle.symm
/-! ### shuffled -/
abbrev sp_law_shuffled : Sp := sp2 fun x y H Q => ∃ (g a : Addr) (xs : List Int) (c : Int), x = .ref g ∧ y = .ref a ∧ GenAt H g c ∧ c ≤ 2 ^ 39 ∧ H a = some (.lst (xs.map V.int)) ∧ a ≠ g ∧ xs.length ≤ 8 ∧ ∀ r H' (ys : List Int), ys.Perm xs → Kp g H H' → GenAt H' g (c + 16) → H' r = some (.lst (ys.map V.int)) → H r = none → Q (.ref r) H'
theorem g_law_shuffled (T : Fx K mg A) : Gf P w K mg base 3 "_law_shuffled" ["_law_generator_here", "_law_items"] (sp_law_shuffled) := by
  refine gf2 T.d_law_shuffled sc_law_shuffled (fun _ _ _ _ _ _ us hl => match us, hl with | [_, _], _ => rfl) ?_
  rintro v1 v2 f cdv A' outer s E H Q hr ⟨g, a, xs, c, rfl, rfl, hg, hc, ha, ag, lx, q⟩
  refine ⟨_, (pss_cons (ps_set (i := 2) sc_law_shuffled.nd rfl (by first | exact Or.inl rfl | exact Or.inr rfl) (pe_callTy call_list_of (by rfl) T.b_list (by decide +kernel) (pa_cons (pv 1) pa_nil)))
      (pss_one (ps_ret (pe_lc (own := [("_law_item", 3)]) (g := gName 3) (tt := tYes) rfl sc_law_shuffled.nd (pi_list (pv 1)) (blkOk_by (N := ["_law_generator_here", "_law_items", "_law_pool", "_law_item"]) (sc := defScope s_law_shuffled) (by decide +kernel)) (fun _ _ _ _ _ => pg_name (i := 3) sc_law_shuffled.nd rfl (by first | exact Or.inl rfl | exact Or.inr rfl)) (fun _ _ _ _ _ => pts_nil) (fun _ _ _ _ _ => (pe_bmK K PySem.F.plainAttrs_list PySem.F.slot_list_pop PySem.F.type_list_pop mt_popAt (pv 2) (pa_cons (pe_g (g_law_random T) hr (pa_cons (pv 0) (pa_cons (pe_callB (lenK K) (by rfl) T.b_len (by decide +kernel) (pa_cons (pv 2) pa_nil)) pa_nil))) pa_nil))))))), ?_⟩
  refine ⟨_, rfl, a, _, rfl, .inl (SqL.of ha), fun p hp => ?_⟩
  have s1 : Same H (upd H p (.lst (xs.map V.int))) := Same.new hp
  have pg : p ≠ g := hg.ne hp
  have ap : a ≠ p := ne_of_none ha hp
  refine ⟨_, rfl, a, rfl, ⟨_, SqL.of (s1 _ _ ha)⟩, fun D hD => ?_⟩
  have Dg : D ≠ g := (hg.same s1).ne hD
  have Dp : D ≠ p := (ne_of_none upd_same hD).symm
  have hDH : H D = none := s1.free hD
  refine lc_it (walk_list (xs := xs.map V.int)) (fun i H' => Kp g H H' ∧ GenAt H' g (c + 2 * (i : Nat)) ∧ ∃ acc zs : List Int, H' p = some (.lst (zs.map V.int)) ∧ H' D = some (.lst (acc.map V.int)) ∧ (acc ++ zs).Perm xs ∧ acc.length = i)
    ⟨Kp.same (Same.tr s1 (Same.new hD)), by rw [show c + 2 * ((0 : Nat) : Int) = c by omega]; exact (hg.same s1).same (Same.new hD), [], xs, by rw [upd_ne Dp.symm]; exact upd_same, upd_same, List.Perm.refl _, rfl⟩ (fun i H' _ h => SqL.of (h.1 _ _ ag ha)) ?_ ?_
  · rintro i x H1 H2 hi ⟨kp, hg1, acc, zs, h1, h2, pm, al⟩ ⟨rfl, e⟩
    rw [List.length_map] at hi
    have zl : acc.length + zs.length = xs.length := by rw [← pm.length_eq, List.length_append]
    have zpos : 0 < zs.length := by omega
    refine ⟨rfl, _, rfl, .inl ⟨rfl, _, SqL.of h1⟩, _, rfl, _, rfl, p, _, rfl, .inl (SqL.of h1), g, _, c + 2 * (i : Nat), rfl, rfl, hg1, by omega, by rw [List.length_map]; omega, by rw [List.length_map]; omega, fun z H3 z0 z1 k3 g3 => ?_⟩
    rw [List.length_map] at z1
    obtain ⟨k, rfl⟩ : ∃ k : Nat, z = (k : Int) := ⟨z.toNat, by omega⟩
    have kz : k < zs.length := by omega
    have e3 : H3 p = some (.lst (zs.map V.int)) := k3 _ _ pg h1
    have D3 : H3 D = some (.lst (acc.map V.int)) := k3 _ _ Dg h2
    have sq : seqIndex? ((k : Nat) : Int) (zs.map V.int).length = some k := (ixN_seq (ixN_nat (by rw [List.length_map]; exact kz))).1
    refine ⟨p, _, _, k, .int zs[k], rfl, rfl, e3, by omega, by omega, sq, by rw [List.getElem?_map]; simp [kz], ?_⟩
    refine ⟨acc.map V.int, by rw [upd_ne Dp]; exact D3, by rw [List.length_map]; exact small1000 (by omega), ?_, ?_, acc ++ [zs[k]], zs.eraseIdx k, ?_, ?_, ?_, ?_⟩
    · intro b o hb e
      rw [upd_ne (ne_of_none e hDH), upd_ne (ne_of_none e hp)]
      exact k3 _ _ hb (kp _ _ hb e)
    · exact ((g3.upd_ pg).upd_ Dg).mono (by omega)
    · rw [upd_ne Dp.symm, upd_same, List.eraseIdx_eq_take_drop_succ, List.eraseIdx_eq_take_drop_succ, List.map_append, List.map_take, List.map_drop]
    · rw [upd_same, List.map_append]; rfl
    · refine List.Perm.trans ?_ pm
      rw [List.append_assoc]
      exact List.Perm.append_left _ (perm_erase kz)
    · rw [List.length_append, al]; rfl
  · rintro H1 ⟨kp, hg1, acc, zs, h1, h2, pm, al⟩
    rw [List.length_map] at al hg1
    have zl : acc.length + zs.length = xs.length := by rw [← pm.length_eq, List.length_append]
    have z0 : zs = [] := List.eq_nil_of_length_eq_zero (by omega)
    subst z0
    rw [List.append_nil] at pm
    exact q D H1 acc pm kp (hg1.mono (by omega)) h2 hDH
/-! ### random_chart -/
theorem chV_snoc {m : Nat} {par : Nat → Nat} {a : Nat} (h : 0 < m) : arV m (chO par) ++ [V.int (a : Nat)] = arV (m + 1) (chO fun k => if k = m then a else par k) := by
  unfold arV opl
  rw [List.range_succ, List.map_append, List.map_append]
  congr 1
  · rw [List.map_map, List.map_map]
    apply List.map_congr_left
    intro k hk
    have := List.mem_range.mp hk
    show oV (if k = 0 then none else some ((par k : Nat) : Int)) = oV (if k = 0 then none else some (((if k = m then a else par k : Nat)) : Int))
    by_cases c : k = 0
    · rw [if_pos c, if_pos c]
    · rw [if_neg c, if_neg c, if_neg (by omega)]
  · show [V.int (a : Nat)] = [oV (if m = 0 then none else some (((if m = m then a else par m : Nat)) : Int))]
    rw [if_neg (by omega), if_pos rfl]; rfl
theorem ix4 {K : PySem.W.Frag} {H : Hp} {l : Addr} {a b c d : V} {z : Int} {Q : VK} (h : H l = some (.lst [a, b, c, d])) (z0 : 0 ≤ z) (z1 : z < 4) (q : ∀ v, v = a ∨ v = b ∨ v = c ∨ v = d → Q v H) : rIxL K (.ref l) (.int z) H Q := by
  obtain ⟨k, rfl⟩ : ∃ k : Nat, z = (k : Int) := ⟨z.toNat, by omega⟩
  have : k = 0 ∨ k = 1 ∨ k = 2 ∨ k = 3 := by omega
  rcases this with rfl | rfl | rfl | rfl
  · exact ⟨l, _, _, a, rfl, rfl, SqL.of h, rfl, q a (.inl rfl)⟩
  · exact ⟨l, _, _, b, rfl, rfl, SqL.of h, rfl, q b (.inr (.inl rfl))⟩
  · exact ⟨l, _, _, c, rfl, rfl, SqL.of h, rfl, q c (.inr (.inr (.inl rfl)))⟩
  · exact ⟨l, _, _, d, rfl, rfl, SqL.of h, rfl, q d (.inr (.inr (.inr rfl)))⟩
abbrev sp_law_random_chart : Sp := sp2 fun x y H Q => ∃ (g : Addr) (c : Int), x = .ref g ∧ y = .int 8 ∧ GenAt H g c ∧ c ≤ 2 ^ 39 ∧ ∀ p H' n par, TreeOk n par → Kp g H H' → GenAt H' g (c + 100) → H' p = some (.tup (chV n par)) → Q (.ref p) H'
theorem g_law_random_chart (T : Fx K mg A) : Gf P w K mg base 3 "_law_random_chart" ["_law_generator_here", "_law_most"] (sp_law_random_chart) := by
  refine gf2 T.d_law_random_chart sc_law_random_chart (fun _ _ _ _ _ _ us hl => match us, hl with | [_, _], _ => rfl) ?_
  rintro v1 v2 f cdv A' outer s E H Q hr ⟨g, c, rfl, rfl, hg, hc, q⟩
  refine ⟨_, (pss_cons (ps_set (i := 2) sc_law_random_chart.nd rfl (by first | exact Or.inl rfl | exact Or.inr rfl) (pe_op op_add pe_int (pe_g (g_law_random T) hr (pa_cons (pv 0) (pa_cons (pv 1) pa_nil)))))
      (pss_cons (ps_set (i := 3) sc_law_random_chart.nd rfl (by first | exact Or.inl rfl | exact Or.inr rfl) (pe_g (g_law_random T) hr (pa_cons (pv 0) (pa_cons pe_int pa_nil))))
      (pss_cons (ps_set (i := 4) sc_law_random_chart.nd rfl (by first | exact Or.inl rfl | exact Or.inr rfl) (pe_tup (pa_cons pe_non pa_nil)))
      (pss_cons (ps_for PassesOwn.never rfl (pi_range2 (by rfl) T.b_range (pa_cons pe_int (pa_cons (pv 2) pa_nil))) (pg_name (i := 5) sc_law_random_chart.nd rfl (by first | exact Or.inl rfl | exact Or.inr rfl))
      (pss_cons (ps_set (i := 6) sc_law_random_chart.nd rfl (by first | exact Or.inl rfl | exact Or.inr rfl) (pe_ix ix_list (pe_lst (pa_cons (pe_op op_sub (pv 5) pe_int) (pa_cons pe_int (pa_cons (pe_g (g_law_random T) hr (pa_cons (pv 0) (pa_cons (pv 5) pa_nil))) (pa_cons (pe_callB (call_max2 rfl) (by rfl) T.b_max (by decide +kernel) (pa_cons pe_int (pa_cons (pe_op op_sub (pe_op op_sub (pv 5) pe_int) (pe_g (g_law_random T) hr (pa_cons (pv 0) (pa_cons pe_int pa_nil)))) pa_nil))) pa_nil))))) (pv 3) (fun _ _ => rfl)))
      (pss_one (ps_set (i := 4) sc_law_random_chart.nd rfl (by first | exact Or.inl rfl | exact Or.inr rfl) (pe_op op_catA (pv 4) (pe_tup (pa_cons (pv 6) pa_nil)))))))
      (pss_one (ps_ret (pv 4))))))), ?_⟩
  refine ⟨_, rfl, _, rfl, g, 8, c, rfl, rfl, hg, by omega, by decide, by decide, fun sz H1 s0 s1 k1 g1 => ⟨_, _, rfl, rfl, ?_⟩⟩
  refine ⟨_, rfl, g, 4, c + 2, rfl, rfl, g1, by omega, by decide, by decide, fun kd H2 d0 d1 k2 g2 => ?_⟩
  refine ⟨by show 1 ≤ sizeLine; decide, fun t0 nt0 => ?_⟩
  have k3 : Kp g H (upd H2 t0 (.tup [.non])) := Kp.tr k1 (Kp.tr k2 (Kp.same (Same.new nt0)))
  have g3 := g2.same (Same.new (o := .tup [.non]) nt0)
  obtain ⟨n, rfl⟩ : ∃ n : Nat, sz = (n : Int) := ⟨sz.toNat, by omega⟩
  refine ⟨_, rfl, _, _, rfl, ⟨by omega, by omega, by omega, by omega⟩, ?_⟩
  have e0 : (1 + (n : Int) - 1).toNat = n := by omega
  refine for_it (walk_range (lo := 1) (n := (1 + (n : Int) - 1).toNat)) (fun i σ H' => (∃ t u v, σ = [some (.ref g), some (.int 8), some (.int (1 + (n : Int))), some (.int kd), some (.ref t), u, v] ∧ ∃ par : Nat → Nat, H' t = some (.tup (arV (i + 1) (chO par))) ∧ ∀ k, 0 < k → k < i + 1 → par k < k) ∧ Kp g H H' ∧ GenAt H' g (c + 4 + 4 * (i : Nat)))
    ⟨⟨t0, _, _, rfl, fun _ => 0, upd_same, fun k h1 h2 => by omega⟩, k3, g3.mono (by omega)⟩ (fun i σ H' _ _ => trivial) ?_ ?_
  · rintro i x σ H4 H5 hi ⟨⟨t, u, v, rfl, par, et, hp⟩, kp, g4⟩ ⟨rfl, rfl⟩
    refine ⟨_, rfl, _, _, rfl, rfl, _, rfl, _, rfl, g, _, _, rfl, rfl, g4, by omega, by omega, by omega, fun z1 H6 a0 a1 k6 g6 => ?_⟩
    refine ⟨_, rfl, _, _, rfl, rfl, _, rfl, g, 3, _, rfl, rfl, g6, by omega, by decide, by decide, fun z2 H7 b0 b1 k7 g7 => ?_⟩
    refine ⟨_, _, rfl, rfl, _, _, rfl, by show 4 ≤ sizeLine; decide, fun l nl => ?_⟩
    have s8 : Same H7 (upd H7 l (.lst [.int (1 + (i : Nat) - 1), .int 0, .int z1, .int (if 1 + (i : Nat) - 1 - z2 > 0 then 1 + (i : Nat) - 1 - z2 else 0)])) := Same.new nl
    refine ⟨_, rfl, ix4 upd_same d0 d1 fun v hv => ?_⟩
    obtain ⟨av, rfl, hav⟩ : ∃ av : Nat, v = .int (av : Nat) ∧ av < i + 1 := by
      rcases hv with rfl | rfl | rfl | rfl
      · exact ⟨i, congrArg V.int (by omega), by omega⟩
      · exact ⟨0, rfl, by omega⟩
      · exact ⟨z1.toNat, congrArg V.int (by omega), by omega⟩
      · by_cases cc : 1 + (i : Int) - 1 - z2 > 0
        · rw [if_pos cc]; exact ⟨(1 + (i : Int) - 1 - z2).toNat, congrArg V.int (by omega), by omega⟩
        · rw [if_neg cc]; exact ⟨0, rfl, by omega⟩
    have k8 := Kp.tr k6 (Kp.tr k7 (Kp.same (r := g) s8))
    have tg : t ≠ g := by obtain ⟨_, _, _, eg, _⟩ := g4; exact ne_of et eg (by intro z; cases z)
    have et8 := k8 _ _ tg et
    refine ⟨_, rfl, _, rfl, by show 1 ≤ sizeLine; decide, fun x hx => ?_⟩
    have s9 := Same.new (o := .tup [.int (av : Nat)]) hx
    refine catA_all (s9 _ _ et8) upd_same (by rw [arV_len]; show _ + 1 ≤ 1000; omega) fun p H9 s10 ep => ?_
    refine ⟨⟨p, _, _, rfl, fun k => if k = i + 1 then av else par k, by rw [ep, chV_snoc (by omega)], fun k h1 h2 => ?_⟩, Kp.tr kp (Kp.tr k8 (Kp.same (Same.tr s9 s10))), ((g7.same s8).same (Same.tr s9 s10)).mono (by omega)⟩
    show (if k = i + 1 then av else par k) < k
    by_cases cc : k = i + 1
    · rw [if_pos cc]; omega
    · rw [if_neg cc]; exact hp k h1 (by omega)
  · rintro σ H4 ⟨⟨t, u, v, rfl, par, et, hp⟩, kp, g4⟩
    rw [e0] at et hp g4
    exact ⟨_, rfl, q t H4 (n + 1) par ⟨by omega, by omega, hp⟩ kp (g4.mono (by omega)) et⟩
/-! ### _law_open, _law_people -/
theorem openL_succ {par : Nat → Nat} {f : Nat → Option Int} {i : Nat} : openL par f (i + 1) = openL par f i ++ (if openB par f i = true then [i] else []) := by
  unfold openL
  rw [List.range_succ, List.filter_append]
  congr 1
  cases e : openB par f i <;> simp [e]
theorem openL_len {par : Nat → Nat} {f : Nat → Option Int} {i : Nat} : (openL par f i).length ≤ i := by
  unfold openL
  exact Nat.le_trans (List.length_filter_le _ _) (by simp)
abbrev sp_law_open : Sp := sp2 fun x y H Q => ∃ c a n par f, x = .ref c ∧ y = .ref a ∧ H c = some (.tup (chV n par)) ∧ H a = some (.tup (arV n f)) ∧ TreeOk n par ∧ ∀ p H', Same H H' → H p = none → H' p = some (.lst (natV (openL par f n))) → Q (.ref p) H'
theorem g_law_open (T : Fx K mg A) : Gf P w K mg base 1 "_law_open" ["_law_chart", "_law_rows"] (sp_law_open) := by
  refine gf2 T.d_law_open sc_law_open (fun _ _ _ _ _ _ us hl => match us, hl with | [_, _], _ => rfl) ?_
  rintro v1 v2 f cdv A' outer s E H Q hr ⟨c, b, n, par, g, rfl, rfl, hc, hb, ok, q⟩
  refine ⟨_, (pss_cons (ps_set (i := 2) sc_law_open.nd rfl (by first | exact Or.inl rfl | exact Or.inr rfl) (pe_lst pa_nil))
      (pss_cons (ps_for PassesOwn.never rfl (pi_enumT (by rfl) T.b_enumerate (pa_cons (pv 0) pa_nil)) (pg_tup rfl (pgs_cons (pg_name (i := 3) sc_law_open.nd rfl (by first | exact Or.inl rfl | exact Or.inr rfl)) (pgs_cons (pg_name (i := 4) sc_law_open.nd rfl (by first | exact Or.inl rfl | exact Or.inr rfl)) pgs_nil)))
      (pss_one (ps_if (PW.pt (pw_and (pt_cmpR op_isN (pe_ix ix_tup (pv 1) (pv 3) (fun _ _ => rfl)) pe_non (nomark _)) (pw_and1 (PW.pt (pw_or (pt_cmpR op_isN (pv 4) pe_non (nomark _)) (pw_or1 (pt_cmpR op_notN (pe_ix ix_tup (pv 1) (pv 4) (fun _ _ => rfl)) pe_non (nomark _)))))))) (pss_one (ps_expr (pe_bm PySem.F.plainAttrs_list PySem.F.slot_list_append PySem.F.type_list_append mt_append (pv 2) (pa_cons (pv 3) pa_nil)))) pss_nil)))
      (pss_one (ps_ret (pv 2))))), ?_⟩
  have n8 := ok.le
  refine ⟨Nat.zero_le _, fun l nl => ?_⟩
  have s1 : Same H (upd H l (.lst [])) := Same.new nl
  refine ⟨_, rfl, c, _, rfl, SqT.of (s1 _ _ hc), ?_⟩
  refine for_it (walk_enumT (xs := chV n par)) (fun i σ H' => (∃ u1 u2, σ = [some (.ref c), some (.ref b), some (.ref l), u1, u2]) ∧ Same H H' ∧ H' l = some (.lst (natV (openL par g i)))) ⟨⟨_, _, rfl⟩, s1, upd_same⟩ (fun i σ H' _ x => SqT.of (x.2.1 _ _ hc)) ?_ ?_
  · rintro i x σ H1 H2 hi ⟨⟨u1, u2, rfl⟩, sm, el⟩ ⟨T1, x1, y1, rfl, hT, rfl, e1, e2⟩
    cases e1
    obtain ⟨hin, rfl⟩ := arV_geti e2
    refine gpair upd_same ?_
    have sm2 := Same.tr sm (Same.new (o := .tup [.int (i : Nat), oV (chO par i)]) hT)
    have el2 := Same.new (o := .tup [.int (i : Nat), oV (chO par i)]) hT _ _ el
    have win : openB par g i = true → ∀ H3, H3 = upd H1 T1 (.tup [.int (i : Nat), oV (chO par i)]) → Same H (upd H3 l (.lst (natV (openL par g i) ++ [.int (i : Nat)]))) ∧ upd H3 l (.lst (natV (openL par g i) ++ [.int (i : Nat)])) l = some (.lst (natV (openL par g (i + 1)))) := fun h H3 e3 => by
      subst e3
      refine ⟨fun x u e => by rw [upd_ne (ne_of_none e nl)]; exact sm2 _ _ e, ?_⟩
      rw [upd_same, openL_succ, if_pos h]
      unfold natV
      rw [List.map_append]; rfl
    have fail : openB par g i = false → upd H1 T1 (.tup [.int (i : Nat), oV (chO par i)]) l = some (.lst (natV (openL par g (i + 1)))) := fun h => by
      rw [openL_succ, h, if_neg (by decide), List.append_nil]; exact el2
    have ll : (natV (openL par g i)).length < sizeLine := by unfold natV; rw [List.length_map]; have := openL_len (par := par) (f := g) (i := i); exact small1000 (by omega)
    have hob : openB par g i = ((g i).isNone && (i == 0 || (g (par i)).isSome)) := rfl
    refine ⟨_, rfl, _, rfl, b, _, _, _, rfl, rfl, SqT.of (sm2 _ _ hb), arV_at hin, rfl, _, rfl, ?_⟩
    cases eg : g i with
    | some z =>
      rw [eg] at hob
      exact iteF ⟨⟨_, _, rfl⟩, sm2, fail hob⟩
    | none =>
      rw [eg] at hob
      refine ifT rfl ?_
      refine ⟨_, rfl, rfl, _, rfl, ?_⟩
      by_cases i0 : i = 0
      · subst i0
        refine ifT rfl ?_
        obtain ⟨w1, w2⟩ := win hob _ rfl
        exact ⟨_, rfl, .inl ⟨rfl, _, SqL.of el2⟩, _, rfl, l, _, _, rfl, rfl, el2, ll, ⟨_, _, rfl⟩, w1, w2⟩
      · have lt := ok.lt i (by omega) hin
        have e3 : (i == 0) = false := by simpa using i0
        rw [e3] at hob
        rw [chO_pos (by omega)] at *
        refine ifF rfl ?_
        refine ⟨_, rfl, _, rfl, b, _, _, _, rfl, rfl, SqT.of (sm2 _ _ hb), arV_at (k := par i) (by omega), rfl, _, rfl, ?_⟩
        cases e4 : g (par i) with
        | none =>
          rw [e4] at hob
          exact iteF ⟨⟨_, _, rfl⟩, sm2, fail hob⟩
        | some z =>
          rw [e4] at hob
          refine ifT rfl ?_
          obtain ⟨w1, w2⟩ := win hob _ rfl
          exact ⟨_, rfl, .inl ⟨rfl, _, SqL.of el2⟩, _, rfl, l, _, _, rfl, rfl, el2, ll, ⟨_, _, rfl⟩, w1, w2⟩
  · rintro σ H1 ⟨⟨u1, u2, rfl⟩, sm, el⟩
    rw [arV_len] at el
    exact ⟨_, rfl, q l _ sm nl el⟩
abbrev sp_law_people : Sp := sp1 fun x H Q => ∃ b n f, x = .ref b ∧ H b = some (.tup (arV n f)) ∧ n ≤ 8 ∧ ∀ q H' (ys : List Int), Same H H' → H q = none → H' q = some (.lst (ys.map V.int)) → ys.Perm (ppl f n) → ys.Pairwise (· ≤ ·) → Q (.ref q) H'
theorem g_law_people (T : Fx K mg A) : Gf P w K mg base 1 "_law_people" ["_law_rows"] (sp_law_people) := by
  refine gf1 T.d_law_people sc_law_people (fun _ _ _ _ _ _ us hl => match us, hl with | [_], _ => rfl) ?_
  rintro v1 f cdv A' outer s E H Q hr ⟨b, n, g, rfl, hb, n8, q⟩
  refine ⟨_, (pss_one (ps_ret (pe_callB cr_sortedI (by rfl) T.b_sorted (by decide +kernel) (pa_cons (pe_lc (own := [("_law_person", 1)]) (g := gName 1) rfl sc_law_people.nd (pi_tup (pv 0)) (blkOk_by (N := ["_law_rows", "_law_person"]) (sc := defScope s_law_people) (by decide +kernel)) (fun _ _ _ _ _ => pg_name (i := 1) sc_law_people.nd rfl (by first | exact Or.inl rfl | exact Or.inr rfl)) (fun _ _ _ _ _ => (pts_one (pt_cmpR op_notN (pv 1) pe_non (nomark _)))) (fun _ _ _ _ _ => (pv 1))) pa_nil)))), ?_⟩
  refine ⟨_, rfl, b, rfl, ⟨_, SqT.of hb⟩, fun D hD => ?_⟩
  refine lc_it (walk_tup (xs := arV n g)) (fun i H' => Same H H' ∧ H' D = some (.lst ((ppl g i).map V.int))) ⟨Same.new hD, upd_same⟩ (fun i H' _ h => SqT.of (h.1 _ _ hb)) ?_ ?_
  · rintro i x H1 H2 hi ⟨sm, h1⟩ ⟨rfl, e⟩
    obtain ⟨hin, rfl⟩ := arV_geti e
    refine ⟨rfl, _, rfl, rfl, _, rfl, ?_⟩
    rw [ppl_succ]
    cases e1 : g i with
    | none => exact iteF ⟨sm, by rw [Option.toList_none, List.append_nil]; exact h1⟩
    | some x =>
      refine ifT rfl ⟨_, rfl, _, h1, ?_, fun b o e => by rw [upd_ne (ne_of_none e hD)]; exact sm _ _ e, ?_⟩
      · rw [List.length_map]; have := ppl_len (f := g) (n := i); exact small1000 (by omega)
      · rw [upd_same, List.map_append]; rfl
  rintro H1 ⟨sm1, h1⟩
  rw [arV_len] at h1
  exact ⟨D, ppl g n, rfl, SqL.of h1, fun ys p perm ris np => q p _ ys (Same.tr sm1 (Same.new np)) (sm1.free np) upd_same perm ris⟩
/-! ### random_people -/
def Ris (xs : List Int) : Prop := xs.Pairwise (· < ·) ∧ ∀ x ∈ xs, 0 ≤ x
abbrev sp_law_random_people : Sp := sp2 fun x y H Q => ∃ (g : Addr) (m : Nat) (c : Int), x = .ref g ∧ y = .int (m : Nat) ∧ GenAt H g c ∧ c ≤ 2 ^ 39 ∧ m ≤ 8 ∧ ∀ r H' (xs : List Int), Ris xs → xs.length = m → Kp g H H' → GenAt H' g (c + 32) → H' r = some (.lst (xs.map V.int)) → r ≠ g → Q (.ref r) H'
theorem g_law_random_people (T : Fx K mg A) : Gf P w K mg base 3 "_law_random_people" ["_law_generator_here", "_law_count"] (sp_law_random_people) := by
  refine gf2 T.d_law_random_people sc_law_random_people (fun _ _ _ _ _ _ us hl => match us, hl with | [_, _], _ => rfl) ?_
  rintro v1 v2 f cdv A' outer s E H Q hr ⟨g, m, c, rfl, rfl, hg, hc, m8, q⟩
  refine ⟨_, (pss_cons (ps_par (i := 2) (j := 3) rfl sc_law_random_people.nd rfl rfl (by decide) rfl rfl (pa_cons (pe_lst pa_nil) (pa_cons (pe_un un_neg pe_int) pa_nil)) (by rfl))
      (pss_cons (ps_for PassesOwn.never rfl (pi_range1 (by rfl) T.b_range (pa_cons (pv 1) pa_nil)) (pg_name (i := 4) sc_law_random_people.nd rfl (by first | exact Or.inl rfl | exact Or.inr rfl))
      (pss_cons (ps_set (i := 3) sc_law_random_people.nd rfl (by first | exact Or.inl rfl | exact Or.inr rfl) (pe_op op_add (pe_op op_add (pv 3) pe_int) (pe_g (g_law_random T) hr (pa_cons (pv 0) (pa_cons (pe_ix ix_list (pe_lst (pa_cons pe_int (pa_cons pe_int (pa_cons pe_int (pa_cons (pe_op op_powW pe_int pe_int) pa_nil))))) (pe_g (g_law_random T) hr (pa_cons (pv 0) (pa_cons pe_int pa_nil))) (fun _ _ => rfl)) pa_nil)))))
      (pss_one (ps_expr (pe_bm PySem.F.plainAttrs_list PySem.F.slot_list_append PySem.F.type_list_append mt_append (pv 2) (pa_cons (pv 3) pa_nil))))))
      (pss_one (ps_ret (pv 2))))), ?_⟩
  refine ⟨Nat.zero_le _, fun l nl => ⟨_, rfl, ?_⟩⟩
  have lg := hg.ne nl
  refine ⟨_, _, rfl, _, rfl, _, rfl, by omega, by omega, ?_⟩
  refine for_it walk_range (fun i σ H' => ∃ (xs : List Int) (k : Int) (u : Option V), σ = [some (.ref g), some (.int (m : Nat)), some (.ref l), some (.int k), u] ∧ Kp g H H' ∧ GenAt H' g (c + 4 * (i : Nat)) ∧ H' l = some (.lst (xs.map V.int)) ∧ Ris xs ∧ xs.length = i ∧ -1 ≤ k ∧ ∀ x ∈ xs, x ≤ k)
    ⟨[], -1, _, rfl, Kp.same (Same.new nl), (hg.same (Same.new nl)).mono (by omega), upd_same, ⟨List.Pairwise.nil, fun x hx => nomatch hx⟩, rfl, Int.le_refl _, fun x hx => nomatch hx⟩ (fun i σ H' _ _ => trivial) ?_ ?_
  · rintro i x σ H1 H2 hi ⟨xs, k, u, rfl, kp, g1, e1, ⟨rs, rn⟩, xl, k0, kx⟩ ⟨rfl, rfl⟩
    have il : i < 8 := by omega
    refine ⟨_, rfl, _, _, rfl, rfl, _, rfl, ?_⟩
    refine ⟨_, _, rfl, rfl, ⟨by decide, by decide⟩, by show 4 ≤ sizeLine; decide, fun p hp => ?_⟩
    have s2 := Same.new (o := .lst [V.int 1, .int 2, .int 5, .int (10 ^ Int.toNat 9)]) hp
    refine ⟨_, rfl, g, 4, _, rfl, rfl, g1.same s2, by omega, by decide, by decide, fun z H3 z0 z1 k3 g3 => ?_⟩
    have pg := g1.ne hp
    refine ix4 (k3 _ _ pg upd_same) z0 z1 fun v hv => ?_
    obtain ⟨bd, rfl, b1, b2⟩ : ∃ bd : Int, v = .int bd ∧ 1 ≤ bd ∧ bd ≤ 1000000000 := by
      rcases hv with rfl | rfl | rfl | rfl
      · exact ⟨1, rfl, by decide, by decide⟩
      · exact ⟨2, rfl, by decide, by decide⟩
      · exact ⟨5, rfl, by decide, by decide⟩
      · exact ⟨_, rfl, by decide, by decide⟩
    refine ⟨g, bd, _, rfl, rfl, g3, by omega, b1, b2, fun z2 H4 y0 y1 k4 g4 => ?_⟩
    refine ⟨_, _, rfl, rfl, ?_⟩
    have kk : Kp g H2 H4 := Kp.tr (Kp.same s2) (Kp.tr k3 k4)
    have e4 := kk _ _ lg e1
    refine ⟨_, rfl, .inl ⟨rfl, _, SqL.of e4⟩, _, rfl, l, _, _, rfl, rfl, e4, by rw [List.length_map]; exact small1000 (by omega), ?_⟩
    refine ⟨xs ++ [k + 1 + z2], k + 1 + z2, _, rfl, fun b o hb e => ?_, (g4.upd_ lg).mono (by omega), by rw [upd_same, List.map_append]; rfl, ⟨?_, fun y hy => ?_⟩, by rw [List.length_append, xl]; rfl, by omega, fun y hy => ?_⟩
    · rw [upd_ne (ne_of_none e nl)]; exact kk _ _ hb (kp _ _ hb e)
    · rw [List.pairwise_append]
      refine ⟨rs, List.pairwise_singleton _ _, fun a ha b hb => ?_⟩
      rw [List.mem_singleton] at hb
      have := kx a ha
      omega
    · rcases List.mem_append.mp hy with hy | hy
      · exact rn y hy
      · rw [List.mem_singleton] at hy; omega
    · rcases List.mem_append.mp hy with hy | hy
      · have := kx y hy; omega
      · rw [List.mem_singleton] at hy; omega
  · rintro σ H1 ⟨xs, k, u, rfl, kp, g1, e1, rs, xl, k0, kx⟩
    exact ⟨_, rfl, q l H1 xs rs (by omega) kp (g1.mono (by omega)) e1 lg⟩
/-! ### filled -/
theorem exists_open {n : Nat} {par : Nat → Nat} {f : Nat → Option Int} (ok : TreeOk n par) (inj : ∀ i j x, f i = some x → f j = some x → i = j) {L : List Int} (hL : ∀ k z, f k = some z → z ∈ L) (hl : L.length < n) : ∃ e, e < n ∧ openB par f e = true ∧ ∀ k, k < e → openB par f k = false := by
  have h1 : ∃ k, k < n ∧ f k = none := Classical.byContradiction fun c => by
    have full : ∀ k, k < n → ∃ z, f k = some z := fun k hk => by
      cases e : f k with
      | none => exact absurd ⟨k, hk, e⟩ c
      | some z => exact ⟨z, rfl⟩
    have h2 : (ppl f n).length = n := by
      have : ∀ m, m ≤ n → (ppl f m).length = m := fun m => by
        induction m with
        | zero => intro _; rfl
        | succ m ih =>
          intro h
          obtain ⟨z, e⟩ := full m (by omega)
          rw [ppl_succ, List.length_append, ih (by omega), e]; rfl
      exact this n (Nat.le_refl _)
    have := nodup_len (ppl_nodup inj n) (l2 := L) fun z hz => by
      obtain ⟨k, _, e⟩ := mem_ppl.mp hz
      exact hL k z e
    omega
  obtain ⟨k, hk, e⟩ := h1
  have : ∃ e, (e < n ∧ f e = none) ∧ ∀ k, k < e → ¬ (k < n ∧ f k = none) := by
    induction k using Nat.strongRecOn with
    | ind k ih =>
      by_cases c : ∃ j, j < k ∧ j < n ∧ f j = none
      · obtain ⟨j, a, b, c⟩ := c
        exact ih j a b c
      · exact ⟨k, ⟨hk, e⟩, fun j hj h => c ⟨j, hj, h.1, h.2⟩⟩
  obtain ⟨m, ⟨mn, mf⟩, mm⟩ := this
  refine ⟨m, mn, ?_, fun k hk => ?_⟩
  · rw [openB_iff mn]
    refine ⟨mn, mf, ?_⟩
    by_cases c : m = 0
    · exact .inl c
    · have lt := ok.lt m (by omega) mn
      cases e2 : f (par m) with
      | none => exact absurd ⟨by omega, e2⟩ (mm _ lt)
      | some y => exact .inr ⟨y, rfl⟩
  · cases e2 : f k with
    | none => exact absurd ⟨by omega, e2⟩ (mm k hk)
    | some y => unfold openB; rw [e2]; rfl
theorem fill_valid {n : Nat} {par : Nat → Nat} {f : Nat → Option Int} {e : Nat} {x : Int} (va : Valid n par f) (O : Open n par f e) (hx : ∀ k z, f k = some z → z < x) (x0 : 0 ≤ x) : Valid n par (fset f e (some x)) := by
  have key : ∀ {k : Nat} {z : Int}, fset f e (some x) k = some z → (k = e ∧ z = x) ∨ (k ≠ e ∧ f k = some z) := fun {k z} h => by
    by_cases c : k = e
    · subst c; rw [fset_same] at h; exact .inl ⟨rfl, (Option.some.inj h).symm⟩
    · rw [fset_ne _ _ c] at h; exact .inr ⟨c, h⟩
  obtain ⟨en, e0, ep⟩ := O
  refine ⟨fun k hk => by rw [fset_ne _ _ (by omega)]; exact va.out k hk, fun k z h => ?_, fun i j z hi hj => ?_, fun k z k0 h => ?_⟩
  · rcases key h with ⟨_, rfl⟩ | ⟨_, h⟩
    · exact x0
    · exact va.nn _ _ h
  · rcases key hi with ⟨a, b⟩ | ⟨a, b⟩ <;> rcases key hj with ⟨a', b'⟩ | ⟨a', b'⟩
    · omega
    · have := hx _ _ b'; omega
    · have := hx _ _ b; omega
    · exact va.inj _ _ _ b b'
  · rcases key h with ⟨rfl, rfl⟩ | ⟨a, b⟩
    · rcases ep with ep | ⟨y, hy⟩
      · omega
      · refine ⟨y, ?_, hx _ _ hy⟩
        rw [fset_ne _ _ (by intro c; rw [c, e0] at hy; cases hy)]; exact hy
    · obtain ⟨y, hy, l⟩ := va.up k z k0 b
      refine ⟨y, ?_, l⟩
      rw [fset_ne _ _ (by intro c; rw [c, e0] at hy; cases hy)]; exact hy
theorem arV_cut {n : Nat} {f : Nat → Option Int} {e : Nat} {x : Int} (he : e < n) : (arV n f).take e ++ [V.int x] ++ (arV n f).drop (e + 1) = arV n (fset f e (some x)) := by
  rw [← arV_set]
  have : e < (arV n f).length := by rw [arV_len]; exact he
  rw [List.set_eq_take_append_cons_drop, if_pos this, List.append_assoc]; rfl
theorem repN_all {K : PySem.W.Frag} {H : Hp} {t : Addr} {z : V} {k : Int} {Q : VK} (ht : H t = some (.tup [z])) (h1 : 1 ≤ k) (h2 : k ≤ 1000) (q : ∀ p H', Same H H' → H' p = some (.tup (List.replicate k.toNat z)) → Q (.ref p) H') : rRepN K (.ref t) (.int k) H Q :=
  ⟨t, k, z, rfl, rfl, SqT.of ht, h1, h2, fun e => q t H Same.refl' (by rw [ht, e]; rfl), fun _ p hp => q p _ (Same.new hp) upd_same⟩
abbrev sp_law_filled : Sp := sp3 fun x y z H Q => ∃ (g ch l : Addr) (n : Nat) (par : Nat → Nat) (xs : List Int) (c : Int), x = .ref g ∧ y = .ref ch ∧ z = .ref l ∧ GenAt H g c ∧ c ≤ 2 ^ 39 ∧ H ch = some (.tup (chV n par)) ∧ H l = some (.lst (xs.map V.int)) ∧ l ≠ g ∧ TreeOk n par ∧ Ris xs ∧ xs.length ≤ n ∧
  ∀ p H' f, Valid n par f → Kp g H H' → GenAt H' g (c + 16) → H' p = some (.tup (arV n f)) → Q (.ref p) H'
theorem g_law_filled (T : Fx K mg A) : Gf P w K mg base 3 "_law_filled" ["_law_generator_here", "_law_chart", "_law_people_here"] (sp_law_filled) := by
  refine gf3 T.d_law_filled sc_law_filled (fun _ _ _ _ _ _ us hl => match us, hl with | [_, _, _], _ => rfl) ?_
  rintro v1 v2 v3 f cdv A' outer s E H Q hr ⟨g, ch, l, n, par, xs, c, rfl, rfl, rfl, hg, hc, hch, hl, lg, ok, ⟨rs, rn⟩, xl, q⟩
  refine ⟨_, (pss_cons (ps_set (i := 3) sc_law_filled.nd rfl (by first | exact Or.inl rfl | exact Or.inr rfl) (pe_op op_repN (pe_tup (pa_cons pe_non pa_nil)) (pe_callB call_len_seq (by rfl) T.b_len (by decide +kernel) (pa_cons (pv 1) pa_nil))))
      (pss_cons (ps_for PassesOwn.never rfl (pi_list (pv 2)) (pg_name (i := 4) sc_law_filled.nd rfl (by first | exact Or.inl rfl | exact Or.inr rfl))
      (pss_cons (ps_set (i := 5) sc_law_filled.nd rfl (by first | exact Or.inl rfl | exact Or.inr rfl) (pe_g (g_law_open T) hr (pa_cons (pv 1) (pa_cons (pv 3) pa_nil))))
      (pss_cons (ps_set (i := 6) sc_law_filled.nd rfl (by first | exact Or.inl rfl | exact Or.inr rfl) (pe_ix ix_list (pv 5) (pe_g (g_law_random T) hr (pa_cons (pv 0) (pa_cons (pe_callB call_len_seq (by rfl) T.b_len (by decide +kernel) (pa_cons (pv 5) pa_nil)) pa_nil))) (fun _ _ => rfl)))
      (pss_one (ps_set (i := 3) sc_law_filled.nd rfl (by first | exact Or.inl rfl | exact Or.inr rfl) (pe_op op_catA (pe_op op_catA (pe_slice sl_tupA (pv 3) po_none (po_some (pv 6))) (pe_tup (pa_cons (pv 4) pa_nil))) (pe_slice sl_tupA (pv 3) (po_some (pe_op op_add (pv 6) pe_int)) po_none)))))))
      (pss_one (ps_ret (pv 3))))), ?_⟩
  have n8 := ok.le
  have np := ok.pos
  have chg : ch ≠ g := by obtain ⟨_, _, _, eg, _⟩ := hg; exact ne_of hch eg (by intro z; cases z)
  refine ⟨by show 1 ≤ sizeLine; decide, fun t0 nt0 => ?_⟩
  have s1 : Same H (upd H t0 (.tup [.non])) := Same.new nt0
  refine ⟨_, rfl, ch, _, rfl, .inr (SqT.of (s1 _ _ hch)), ?_⟩
  refine repN_all upd_same (by rw [arV_len]; omega) (by rw [arV_len]; omega) fun r0 H2 s2 e2 => ?_
  have e2 : H2 r0 = some (.tup (arV n (fun _ => none))) := by rw [e2, arV_len]; exact congrArg (fun z => some (HO.tup z)) arV_none
  have s2 := Same.tr s1 s2
  refine ⟨_, rfl, l, rfl, ⟨_, SqL.of (s2 _ _ hl)⟩, ?_⟩
  refine for_it walk_list (fun i σ H' => ∃ (r : Addr) (u1 u2 u3 : Option V) (f : Nat → Option Int), σ = [some (.ref g), some (.ref ch), some (.ref l), some (.ref r), u1, u2, u3] ∧ Kp g H H' ∧ GenAt H' g (c + 2 * (i : Nat)) ∧ H' r = some (.tup (arV n f)) ∧ Valid n par f ∧ ∀ k z, f k = some z → z ∈ xs.take i)
    ⟨r0, _, _, _, _, rfl, Kp.same s2, (hg.same s2).mono (by omega), e2, valid_none, fun k z h => nomatch h⟩ (fun i σ H' _ h => by obtain ⟨_, _, _, _, _, _, k, _⟩ := h; exact SqL.of (k _ _ lg hl)) ?_ ?_
  · rintro i x σ H3 H4 hi ⟨r, u1, u2, u3, f', rfl, kp, g3, er, va, hf⟩ ⟨rfl, e⟩
    rw [List.getElem?_map] at e
    obtain ⟨x, hx, rfl⟩ := Option.map_eq_some_iff.mp e
    obtain ⟨il, ex⟩ := List.getElem?_eq_some_iff.mp hx
    have xm := List.mem_of_getElem? hx
    have et : xs.take (i + 1) = xs.take i ++ [x] := by rw [List.take_add_one, hx]; rfl
    have below : ∀ z ∈ xs.take i, z < x := fun z hz => by
      have := List.Pairwise.sublist (List.take_sublist (i + 1) _) rs
      rw [et, List.pairwise_append] at this
      exact this.2.2 z hz x (by simp)
    obtain ⟨e0, e0n, e0o, _⟩ := exists_open ok va.inj hf (by rw [List.length_take]; omega)
    refine ⟨_, rfl, _, rfl, ch, r, n, par, f', rfl, rfl, kp _ _ chg hch, er, ok, fun pl H5 s5 npl epl => ?_⟩
    have plpos : 0 < (openL par f' n).length := List.length_pos_of_mem (a := e0) (by unfold openL; exact List.mem_filter.mpr ⟨List.mem_range.mpr e0n, e0o⟩)
    have pll := openL_len (par := par) (f := f') (i := n)
    have lV : (natV (openL par f' n)).length = (openL par f' n).length := by unfold natV; rw [List.length_map]
    have g5 := g3.same s5
    refine ⟨_, rfl, _, rfl, _, rfl, pl, _, rfl, .inl (SqL.of epl), g, _, c + 2 * (i : Nat), rfl, rfl, g5, by omega, by rw [lV]; omega, by rw [lV]; omega, fun z H6 z0 z1 k6 g6 => ?_⟩
    rw [lV] at z1
    obtain ⟨k, rfl⟩ : ∃ k : Nat, z = (k : Int) := ⟨z.toNat, by omega⟩
    have kl : k < (openL par f' n).length := by omega
    have plng : pl ≠ g := g3.ne npl
    have epl6 := k6 _ _ plng epl
    obtain ⟨e1, he1⟩ : ∃ e1, (openL par f' n)[k]? = some e1 := ⟨_, List.getElem?_eq_getElem kl⟩
    have e1m : e1 ∈ openL par f' n := List.mem_of_getElem? he1
    unfold openL at e1m
    obtain ⟨e1n, e1o⟩ := List.mem_filter.mp e1m
    have e1n := List.mem_range.mp e1n
    refine ⟨pl, _, _, .int (e1 : Nat), rfl, rfl, SqL.of epl6, atI_nat (by unfold natV; rw [List.getElem?_map, he1]; rfl), ?_⟩
    have rg : r ≠ g := by obtain ⟨_, _, _, eg, _⟩ := g3; exact ne_of er eg (by intro z; cases z)
    have er6 := k6 _ _ rg (s5 _ _ er)
    refine ⟨_, rfl, _, rfl, _, rfl, slA_all er6 fun p1 H7 s7 ep1 => ?_⟩
    rw [cutV_take] at ep1
    refine ⟨_, rfl, by show 1 ≤ sizeLine; decide, fun p2 hp2 => ?_⟩
    have s8 := Same.new (o := .tup [.int x]) hp2
    refine catA_all (s8 _ _ ep1) upd_same (by rw [List.length_take]; show _ + 1 ≤ 1000; rw [arV_len]; omega) fun p3 H9 s9 ep3 => ?_
    have s79 := Same.tr s7 (Same.tr s8 s9)
    refine ⟨_, rfl, _, rfl, _, _, rfl, rfl, _, rfl, ?_⟩
    dsimp only [tNoPart]
    refine slA_all (s79 _ _ er6) fun p4 H10 s10 ep4 => ?_
    rw [show (((e1 : Nat) : Int) + 1) = ((e1 + 1 : Nat) : Int) from rfl, cutV_drop] at ep4
    refine catA_all (s10 _ _ ep3) ep4 (by rw [List.length_append, List.length_take, List.length_drop, arV_len]; show _ + 1 + _ ≤ 1000; omega) fun p5 H11 s11 ep5 => ?_
    rw [arV_cut e1n] at ep5
    have op := (openB_iff e1n).mp e1o
    have s711 := Same.tr s79 (Same.tr s10 s11)
    refine ⟨p5, _, _, _, fset f' e1 (some x), rfl, Kp.tr kp (Kp.tr (Kp.same s5) (Kp.tr k6 (Kp.same s711))), (g6.same s711).mono (by omega), ep5, fill_valid va op (fun q z hq => below z (hf q z hq)) (rn x xm), fun q z hq => ?_⟩
    rw [et]
    by_cases c : q = e1
    · subst c; rw [fset_same] at hq; cases hq; simp
    · rw [fset_ne _ _ c] at hq; exact List.mem_append_left _ (hf q z hq)
  · rintro σ H3 ⟨r, u1, u2, u3, f', rfl, kp, g3, er, va, hf⟩
    rw [List.length_map] at g3
    exact ⟨_, rfl, q r H3 f' va kp (g3.mono (by omega)) er⟩
/-! ### random_arrangement -/
abbrev sp_law_random_arrangement : Sp := sp2 fun x y H Q => ∃ (g ch : Addr) (n : Nat) (par : Nat → Nat) (c : Int), x = .ref g ∧ y = .ref ch ∧ GenAt H g c ∧ c ≤ 2 ^ 38 ∧ H ch = some (.tup (chV n par)) ∧ TreeOk n par ∧
  ∀ p H' f, Valid n par f → Kp g H H' → GenAt H' g (c + 100) → H' p = some (.tup (arV n f)) → Q (.ref p) H'
theorem g_law_random_arrangement (T : Fx K mg A) : Gf P w K mg base 4 "_law_random_arrangement" ["_law_generator_here", "_law_chart"] (sp_law_random_arrangement) := by
  refine gf2 T.d_law_random_arrangement sc_law_random_arrangement (fun _ _ _ _ _ _ us hl => match us, hl with | [_, _], _ => rfl) ?_
  rintro v1 v2 f cdv A' outer s E H Q hr ⟨g, ch, n, par, c, rfl, rfl, hg, hc, hch, ok, q⟩
  refine ⟨_, (pss_cons (ps_set (i := 2) sc_law_random_arrangement.nd rfl (by first | exact Or.inl rfl | exact Or.inr rfl) (pe_callB call_len_seq (by rfl) T.b_len (by decide +kernel) (pa_cons (pv 1) pa_nil)))
      (pss_cons (ps_set (i := 3) sc_law_random_arrangement.nd rfl (by first | exact Or.inl rfl | exact Or.inr rfl) (pe_ix ix_list (pe_lst (pa_cons (pv 2) (pa_cons (pv 2) (pa_cons (pe_g (g_law_random T) hr (pa_cons (pv 0) (pa_cons (pe_op op_add (pv 2) pe_int) pa_nil))) pa_nil)))) (pe_g (g_law_random T) hr (pa_cons (pv 0) (pa_cons pe_int pa_nil))) (fun _ _ => rfl)))
      (pss_one (ps_ret (pe_g (g_law_filled T) hr (pa_cons (pv 0) (pa_cons (pv 1) (pa_cons (pe_g (g_law_random_people T) hr (pa_cons (pv 0) (pa_cons (pv 3) pa_nil))) pa_nil)))))))), ?_⟩
  have n8 := ok.le
  have chg : ch ≠ g := by obtain ⟨_, _, _, eg, _⟩ := hg; exact ne_of hch eg (by intro z; cases z)
  refine ⟨_, rfl, ch, _, rfl, .inr (SqT.of hch), ?_⟩
  have e0 : (((chV n par).length : Nat) : Int) = (n : Int) := by rw [arV_len]
  refine ⟨_, rfl, _, rfl, _, rfl, _, rfl, _, _, rfl, rfl, g, _, c, rfl, rfl, hg, by omega, by rw [e0]; omega, by rw [e0]; omega, fun z H1 z0 z1 k1 g1 => ?_⟩
  rw [e0] at z1
  refine ⟨by show 3 ≤ sizeLine; decide, fun l nl => ?_⟩
  have s2 := Same.new (o := .lst [V.int ((chV n par).length : Nat), .int ((chV n par).length : Nat), .int z]) nl
  have lg := g1.ne nl
  refine ⟨_, rfl, g, 3, c + 2, rfl, rfl, g1.same s2, by omega, by decide, by decide, fun y H3 y0 y1 k3 g3 => ?_⟩
  obtain ⟨m, hm, m8⟩ : ∃ m : Nat, atI [V.int ((chV n par).length : Nat), .int ((chV n par).length : Nat), .int z] y = some (.int (m : Nat)) ∧ m ≤ n := by
    obtain ⟨k, rfl⟩ : ∃ k : Nat, y = (k : Int) := ⟨y.toNat, by omega⟩
    have : k = 0 ∨ k = 1 ∨ k = 2 := by omega
    rcases this with rfl | rfl | rfl
    · exact ⟨(chV n par).length, rfl, by rw [arV_len]; exact Nat.le_refl _⟩
    · exact ⟨(chV n par).length, rfl, by rw [arV_len]; exact Nat.le_refl _⟩
    · refine ⟨z.toNat, ?_, by omega⟩
      show some (V.int z) = _
      rw [Int.toNat_of_nonneg z0]
  refine ⟨l, _, _, _, rfl, rfl, SqL.of (k3 _ _ lg upd_same), hm, ?_⟩
  have kk : Kp g H H3 := Kp.tr k1 (Kp.tr (Kp.same s2) k3)
  refine ⟨_, rfl, _, rfl, _, rfl, _, rfl, g, m, c + 2 + 2, rfl, rfl, g3, by omega, by omega, fun r H4 xs rs xl k4 g4 e4 rg => ?_⟩
  refine ⟨g, ch, r, n, par, xs, _, rfl, rfl, rfl, g4, by omega, k4 _ _ chg (kk _ _ chg hch), e4, rg, ok, rs, by omega, fun p H5 f' va k5 g5 e5 => ?_⟩
  exact q p H5 f' va (Kp.tr kk (Kp.tr k4 k5)) (g5.mono (by omega)) e5
end MV
end

section
set_option Elab.async false
set_option autoImplicit false
set_option linter.all false
set_option maxRecDepth 100000
set_option maxHeartbeats 4000000
namespace MV
open PySem PySem.Spec PyProof.Rows L2 L3 MU PySem.W
variable {P : Program} {w : World} {K : PySem.W.Frag} {mg : Str → Option Value} {base : Heap} {A : Ad}
/-! ### steps as data -/
def stD : Stp → PyData
  | .lv x => .tuple [.str "leave", .int x]
  | .jn x e => .tuple [.str "join", .int x, .int (e : Nat)]
theorem stD_lay (s : Stp) : (stD s).canLay0 = true := by
  cases s <;> simp [stD, PyData.canLay0, PyData.canLayAll0] <;> decide +kernel
theorem stD_depth (s : Stp) : (stD s).depth ≤ 2 := by
  cases s <;> simp [stD, PyData.depth, PyData.depthAll]
theorem stL_lay : ∀ ss : List Stp, PyData.canLayAll0 (ss.map stD) = true
  | [] => by simp [PyData.canLayAll0]
  | s :: ss => by
    have h1 := stD_lay s
    have h2 := stL_lay ss
    rw [List.map_cons]
    simp [PyData.canLayAll0, h1, h2]
theorem stL_depth : ∀ ss : List Stp, PyData.depthAll (ss.map stD) ≤ 2
  | [] => by simp [PyData.depthAll]
  | s :: ss => by
    have h1 := stD_depth s
    have h2 := stL_depth ss
    rw [List.map_cons]
    simp [PyData.depthAll]
    omega
theorem stL_shaped (ss : List Stp) : SeqAt.shaped (.list (ss.map stD)) = true := by
  have h1 := stL_lay ss
  have h2 := stL_depth ss
  simp [SeqAt.shaped, PyData.canLay0, PyData.depth, h1]
  omega
theorem stL_eqv (ss : List Stp) : PyData.eqv (.list (ss.map stD)) (.list (ss.map stD)) = true := by
  refine SeqAt.eqv_refl _ ?_
  have h1 := stL_lay ss
  simp [PyData.canLay0, h1]
theorem dp_st {H : Hp} : ∀ {ps : List Addr} {ss : List Stp}, Paired (StAt H) ps ss → DpAll K H (ps.map V.ref) (ss.map stD)
  | _, _, .nil => .nil
  | _, _, .cons (b := .lv x) a t => .cons (Dp.tup (SqT.of a) (.cons (.str _) (.cons (.int _) .nil))) (dp_st t)
  | _, _, .cons (b := .jn x e) a t => .cons (Dp.tup (SqT.of a) (.cons (.str _) (.cons (.int _) (.cons (.int _) .nil)))) (dp_st t)
theorem dp_stL {H : Hp} {l : Addr} {ss : List Stp} (h : StL H l ss) : Dp K H (.ref l) (.list (ss.map stD)) := by
  obtain ⟨ps, e, p⟩ := h
  exact .lst (SqL.of e) (dp_st p)
/-! ### own len, in, ==, != by proved methods -/
section
variable {X : Cx} {k k' : Nat} {C Cb : Addr} {Cs : Addr → Prop} {ps : List Str} {sp : Sp}
theorem lenM (G : Mf X.prog X.w X.K X.mg X.base k Cs "__len__" ps sp) (hC : Cs C) (hr : Room k' X.A) (hk : k + 1 ≤ k' := by decide) : CallR X (.builtin "len") (rOwnLen C sp) := by
  obtain ⟨f, fd, hm, hb, F⟩ := G
  exact cr_ownLen F (hr.mono hk) hb (hm C hC).at_ (hm C hC).fn
theorem inM (G : Mf X.prog X.w X.K X.mg X.base k Cs "__contains__" ps sp) (hC : Cs C) (hr : Room k' X.A) (hk : k ≤ k' := by decide) : OpR X (compareOp .In) (rOwnIn C sp id) := by
  obtain ⟨f, fd, hm, hb, F⟩ := G
  exact op_ownIn F (hr.mono hk) hb (hm C hC).at_ (hm C hC).fn
theorem ninM (G : Mf X.prog X.w X.K X.mg X.base k Cs "__contains__" ps sp) (hC : Cs C) (hr : Room k' X.A) (hk : k ≤ k' := by decide) : OpR X (compareOp .NotIn) (rOwnIn C sp not) := by
  obtain ⟨f, fd, hm, hb, F⟩ := G
  exact op_ownNotIn F (hr.mono hk) hb (hm C hC).at_ (hm C hC).fn
theorem eqM (G : Mf X.prog X.w X.K X.mg X.base k Cs "__eq__" ps sp) (hC : Cs C) (hr : Room k' X.A) (hn : PySem.W.notFirst X.K C (.ref Cb) = true) (hk : k ≤ k' := by decide) : OpR X (compareOp .Eq) (rOwnC C Cb sp id) := by
  obtain ⟨f, fd, hm, hb, F⟩ := G
  exact op_ownEq F (hr.mono hk) hb (hm C hC).at_ (hm C hC).fn hn
theorem neM (G : Mf X.prog X.w X.K X.mg X.base k Cs "__eq__" ps sp) (hC : Cs C) (hr : Room k' X.A) (hne : PySem.W.findIn X.K (.ref C) "__ne__" = some (some (.builtin "object.__ne__"))) (hm0 : PySem.W.mroIn X.K C (.type "object") = some true)
    (hn : PySem.W.notFirst X.K C (.ref Cb) = true) (hk : k + 1 ≤ k' := by decide) : OpR X (compareOp .NotEq) (rOwnC C Cb sp not) := by
  obtain ⟨f, fd, hm, hb, F⟩ := G
  exact op_ownNe F (hr.mono hk) hb (hm C hC).at_ (hm C hC).fn hne hm0 hn
end
end MV
end

section
set_option Elab.async false
set_option autoImplicit false
set_option linter.all false
set_option maxRecDepth 100000
set_option maxHeartbeats 4000000
namespace MV
open PySem PySem.Spec PyProof.Rows L2 L3 MU PySem.W
variable {P : Program} {w : World} {K : PySem.W.Frag} {mg : Str → Option Value} {base : Heap} {A : Ad}
theorem dne {α : Type} [DecidableEq α] {a : α} : decide (a ≠ a) = false := decide_eq_false (fun h => h rfl)
/-- the three that an office's methods change are new -/
theorem same_new {H H1 H2 : Hp} {o l d : Addr} (s : Same H H1) (ho : H o = none) (hl : H l = none) (hd : H d = none) (k : KpS [o, l, d] H1 H2) : Same H H2 := fun x u e => by
  refine k _ _ (fun hm => ?_) (s _ _ e)
  rcases List.mem_cons.mp hm with rfl | hm
  · rw [ho] at e; cases e
  · rcases List.mem_cons.mp hm with rfl | hm
    · rw [hl] at e; cases e
    · rcases List.mem_cons.mp hm with rfl | hm
      · rw [hd] at e; cases e
      · cases hm
theorem nin3 {x o l d : Addr} (a : x ≠ o) (b : x ≠ l) (c : x ≠ d) : x ∉ [o, l, d] := by simp [a, b, c]
theorem Of.kp {H H' : Hp} {o C dx c b l d r : Addr} {n : Nat} {par : Nat → Nat} {f : Nat → Option Int} {es : List Ent} {ss : List Stp} {xs : List V} (O : Of A H o C dx c b l d n par f es ss) (k : Kp r H H') (hr : H r = some (.lst xs)) (rl : r ≠ l) (rd : r ≠ d) : Of A H' o C dx c b l d n par f es ss := by
  have kt : ∀ p xs, H p = some (.tup xs) → H' p = some (.tup xs) := fun p xs e => k _ _ (ne_of e hr (by intro z; cases z)) e
  obtain ⟨qs, el, pa⟩ := O.el
  exact ⟨O.io, k _ _ (ne_of O.eo hr (by intro z; cases z)) O.eo, kt _ _ O.ec, kt _ _ O.eb, O.ok, O.va, O.ld, ⟨qs, k _ _ rl.symm el, paired_up pa fun x e h => h.keep kt⟩, O.ve, O.ed.keep (fun xs e => k _ _ rd.symm e) kt⟩
theorem lje_append {n : Nat} {par : Nat → Nat} : ∀ {l1 l2 : List (Int × Nat)} {f g h : Arr}, Lje n par f l1 g → Lje n par g l2 h → Lje n par f (l1 ++ l2) h
  | [], _, _, _, _, a, b => by cases a; exact b
  | (x, e) :: l1, _, _, _, _, ⟨k, p1, p2, p3⟩, b => ⟨k, p1, p2, lje_append p3 b⟩
theorem lvs_append {n : Nat} {par : Nat → Nat} {f g h : Arr} {a b : List Int} (x : Lvs n par f a g) (y : Lvs n par g b h) : Lvs n par f (a ++ b) h := by
  obtain ⟨l1, rfl, p⟩ := x
  obtain ⟨l2, rfl, q⟩ := y
  exact ⟨l1 ++ l2, List.map_append, lje_append p q⟩
abbrev sp_law_is_correct : Sp := sp3 fun x y z H Q => ∃ c b a n par f g, x = .ref c ∧ y = .ref b ∧ z = .ref a ∧ H c = some (.tup (chV n par)) ∧ H b = some (.tup (arV n f)) ∧ H a = some (.tup (arV n g)) ∧ TreeOk n par ∧ Valid n par f ∧ Valid n par g ∧ ∀ H', Same H H' → Q (.bl true) H'
theorem g_law_is_correct (T : Fx K mg A) : Gf P w K mg base 8 "_law_is_correct" ["_law_chart", "_law_before", "_law_after"] (sp_law_is_correct) := by
  refine gf3 T.d_law_is_correct sc_law_is_correct (fun _ _ _ _ _ _ us hl => match us, hl with | [_, _, _], _ => rfl) ?_
  obtain ⟨fpv, mp, Fp⟩ := g_Office_preview (P := P) (w := w) (base := base) T
  obtain ⟨flv, ml, Fl⟩ := g_Office_leave (P := P) (w := w) (base := base) T
  rintro v1 v2 v3 f cdv A' outer s E H Q hr ⟨c, b, a, n, par, g, h, rfl, rfl, rfl, hc, hb, ha, ok, vg, vh, q⟩
  refine ⟨_, (pss_cons (ps_set (i := 3) sc_law_is_correct.nd rfl (by first | exact Or.inl rfl | exact Or.inr rfl) (pe_mk (g_Office_init T) hr (pa_cons (pv 0) (pa_cons (pv 1) pa_nil))))
      (pss_cons (ps_set (i := 4) sc_law_is_correct.nd rfl (by first | exact Or.inl rfl | exact Or.inr rfl) (pe_g (g_fewest_changes T) hr (pa_cons (pv 0) (pa_cons (pv 1) (pa_cons (pv 2) pa_nil)))))
      (pss_cons (ps_if (PW.pt (pw_or (pt_cmpR (neP (Tup (Option Int)) hr (by decide)) (pe_m (g_Office_rehearse T) rfl T.cl_O hr (pv 3) (pa_cons (pv 4) pa_nil)) (pv 2) (nomark _)) (pw_or (pt_cmpR (neP (Tup (Option Int)) hr (by decide)) (pe_p (g_Office_arrangement T) (.inl rfl) T.cl_O hr (pv 3)) (pv 1) (nomark _)) (pw_or1 (pt_cmpR op_ne (pe_callB (lenM (C := A.O) (g_Office_len T) (.inl rfl) hr) (by rfl) T.b_len (by decide +kernel) (pa_cons (pv 3) pa_nil)) pe_int (nomark _)))))) (pss_one (ps_ret pe_bl)) pss_nil)
      (pss_cons (ps_if (PW.pt (pw_or (pt_cmpR (neP (Tup (Option Int)) hr (by decide)) (pe_m (g_Office_play T) rfl T.cl_O hr (pv 3) (pa_cons (pv 4) pa_nil)) (pv 2) (nomark _)) (pw_or (pt_cmpR (op_neD hr.units) (pe_m0 (g_Office_log T) rfl T.cl_O hr (pv 3) ) (pv 4) (nomark _)) (pw_or (pt_cmpR op_ne (pe_callB (lenM (C := A.O) (g_Office_len T) (.inl rfl) hr) (by rfl) T.b_len (by decide +kernel) (pa_cons (pv 3) pa_nil)) pe_int (nomark _)) (pw_or1 (pt_cmpR (neM (C := A.O) (Cb := A.O) (g_Office_eq T) (.inl rfl) hr T.neO T.mroO T.nf_OO) (pv 3) (pe_mk (g_Office_init T) hr (pa_cons (pv 0) (pa_cons (pv 2) pa_nil))) (nomark _))))))) (pss_one (ps_ret pe_bl)) pss_nil)
      (pss_cons (ps_set (i := 5) sc_law_is_correct.nd rfl (by first | exact Or.inl rfl | exact Or.inr rfl) (pe_p (g_Office_people T) (.inl rfl) T.cl_O hr (pv 3)))
      (pss_cons (ps_if (PW.pt (pw_or (pt_cmpR (neP (Tup (Option Int)) hr (by decide)) (pe_methR0 (pv 3) T.cl_O (mp _ rfl) Fp (hr.mono (by decide)) pass0) (pv 2) (nomark _)) (pw_or (pt_cmpR (neP (List Int) hr (by decide)) (pv 5) (pe_g (g_law_people T) hr (pa_cons (pv 2) pa_nil)) (nomark _)) (pw_or1 (pt_cmpR (neP (Option Int) hr (by decide)) (pe_p (g_Office_head T) rfl T.cl_O hr (pv 3)) (pe_ix ix_tup (pv 2) pe_int (fun _ _ => rfl)) (nomark _)))))) (pss_one (ps_ret pe_bl)) pss_nil)
      (pss_cons (ps_set (i := 6) sc_law_is_correct.nd rfl (by first | exact Or.inl rfl | exact Or.inr rfl) (pe_lst (pa_cons (pv 1) pa_nil)))
      (pss_cons (ps_for PassesOwn.never rfl (pi_list (pv 5)) (pg_name (i := 7) sc_law_is_correct.nd rfl (by first | exact Or.inl rfl | exact Or.inr rfl))
      (pss_cons (ps_expr (pe_bm PySem.F.plainAttrs_list PySem.F.slot_list_append PySem.F.type_list_append mt_append (pv 6) (pa_cons (pe_p (g_Office_arrangement T) (.inl rfl) T.cl_O hr (pv 3)) pa_nil)))
      (pss_cons (ps_set (i := 8) sc_law_is_correct.nd rfl (by first | exact Or.inl rfl | exact Or.inr rfl) (pe_methR (pv 3) T.cl_O (mp _ rfl) Fp (hr.mono (by decide)) pass0 (pa_cons (pv 7) pa_nil)))
      (pss_one (ps_if (PW.pt (pw_or (pt_cmpR (ninM (C := A.O) (g_Office_contains T) (.inl rfl) hr) (pv 7) (pv 3) (by rfl)) (pw_or (pt_cmpR (neP (Tup (Option Int)) hr (by decide)) (pe_methR (pv 3) T.cl_O (ml _ rfl).mt Fl (hr.mono (by decide)) pass0 (pa_cons (pv 7) pa_nil)) (pv 8) (nomark _)) (pw_or1 (pt_cmpR (inM (C := A.O) (g_Office_contains T) (.inl rfl) hr) (pv 7) (pv 3) (by rfl)))))) (pss_one (ps_ret pe_bl)) pss_nil)))))
      (pss_cons (ps_if (PW.pt (pw_or (pt_cmpR (neP (Tup (Option Int)) hr (by decide)) (pe_ga (g_play T) T.a_play hr (pa_cons (pv 0) (pa_cons (pv 1) (pa_cons (pe_m0 (g_Office_log T) rfl T.cl_O hr (pv 3) ) pa_nil)))) (pe_p (g_Office_arrangement T) (.inl rfl) T.cl_O hr (pv 3)) (nomark _)) (pw_or1 (pt_cmpR op_ne (pe_callB (lenM (C := A.O) (g_Office_len T) (.inl rfl) hr) (by rfl) T.b_len (by decide +kernel) (pa_cons (pv 3) pa_nil)) (pe_op op_add pe_int (pe_callB call_len_seq (by rfl) T.b_len (by decide +kernel) (pa_cons (pv 5) pa_nil))) (nomark _))))) (pss_one (ps_ret pe_bl)) pss_nil)
      (pss_cons (ps_for PassesOwn.never rfl (pi_list (pe_revL (pv 6))) (pg_name (i := 9) sc_law_is_correct.nd rfl (by first | exact Or.inl rfl | exact Or.inr rfl))
      (pss_cons (ps_expr (pe_m0 (g_Office_undo T) rfl T.cl_O hr (pv 3) ))
      (pss_one (ps_if (pt_cmpR (neP (Tup (Option Int)) hr (by decide)) (pe_p (g_Office_arrangement T) (.inl rfl) T.cl_O hr (pv 3)) (pv 9) (nomark _)) (pss_one (ps_ret pe_bl)) pss_nil))))
      (pss_one (ps_ret (pe_and (pe_cmpR (eqP (List Int) hr (by decide)) (pe_m0 (g_Office_log T) rfl T.cl_O hr (pv 3) ) (pe_lst pa_nil) (nomark _)) (pe_one (pe_cmpR op_eq (pe_callB (lenM (C := A.O) (g_Office_len T) (.inl rfl) hr) (by rfl) T.b_len (by decide +kernel) (pa_cons (pv 3) pa_nil)) pe_int (nomark _)))))))))))))))), ?_⟩
  have n8 := ok.le
  have np := ok.pos
  -- the office, the plan
  refine ⟨_, rfl, _, rfl, fun o dx ho hdx hne => ⟨o, A.O, dx, c, b, n, par, g, rfl, rfl, rfl, upd_same, .inl rfl, mk1 hc ho hdx, mk1 hb ho hdx, ok, vg, fun l d H1 nl nd ld k1 e1 el ed => ⟨rfl, ?_⟩⟩⟩
  have s1 : Same H H1 := mk2 ho hdx k1
  have hl := mk3 ho hdx nl
  have hd := mk3 ho hdx nd
  have O1 : Of A H1 o A.O dx c b l d n par g [] [] := ⟨.inl rfl, e1, s1 _ _ hc, s1 _ _ hb, ok, vg, ld, ⟨[], el, .nil⟩, fun e he => (nomatch he), ⟨[], ed, .nil⟩⟩
  refine ⟨_, rfl, _, rfl, _, rfl, c, b, a, n, par, g, h, rfl, rfl, rfl, s1 _ _ hc, s1 _ _ hb, s1 _ _ ha, ok, vg, vh, fun pl H2 ss s2 npl spl pt lss => ?_⟩
  have O2 := O1.same s2
  obtain ⟨pl1, pl2, plo⟩ := O1.lne npl
  have sm2 := Same.tr s1 s2
  -- rehearse
  refine ⟨_, rfl, o, dx, _, rfl, O2.eo, lO_rehearse _ _ _ _, _, rfl, o, dx, c, b, l, d, n, par, g, [], [], pl, ss, h, rfl, rfl, O2, spl, pt, by decide, (by show 0 + ss.length ≤ 900; omega), fun b3 H3 s3 e3 => ?_⟩
  have sm3 := Same.tr sm2 s3
  have O3 := O2.same s3
  refine ⟨_, rfl, _, _, dp_opts (SqT.of e3), dp_opts (SqT.of (sm3 _ _ ha)), _, rfl, ifF dne ?_⟩
  refine ⟨_, rfl, o, dx, _, rfl, O3.eo, o, A.O, dx, _, _, _, _, rfl, .inl rfl, O3.eo, ?_⟩
  refine ⟨_, rfl, _, _, dp_opts (SqT.of O3.eb), dp_opts (SqT.of (sm3 _ _ hb)), _, rfl, ifF dne ?_⟩
  refine ⟨_, rfl, o, dx, _, rfl, O3.eo, o, A.O, dx, c, b, l, d, n, par, g, [], [], rfl, O3, _, rfl, by decide, by decide, ?_⟩
  refine ⟨rfl, _, rfl, ifF rfl ?_⟩
  -- play
  have spl3 := spl.same s3
  refine ⟨_, rfl, o, dx, _, rfl, O3.eo, lO_play _ _ _ _, _, rfl, o, dx, c, b, l, d, n, par, g, [], [], pl, ss, h, rfl, rfl, O3, spl3, pl1, pl2, pt, by decide, (by show 0 + ss.length ≤ 900; omega), fun b4 H4 k4 O4 => ?_⟩
  have sm4 := same_new sm3 ho hl hd k4
  refine ⟨_, rfl, _, _, dp_opts (SqT.of O4.eb), dp_opts (SqT.of (sm4 _ _ ha)), _, rfl, ifF dne ?_⟩
  have spl4 : StL H4 pl ss := by
    obtain ⟨qs, qe, qp⟩ := spl3
    obtain ⟨u1, ue, _⟩ := O3.el
    obtain ⟨u2, uf, _⟩ := O3.ed
    exact ⟨qs, k4 _ _ (nin3 plo pl1 pl2) qe, paired_up qp fun x e hh => hh.keep fun xs z => kpS_tup O3.eo ue uf k4 _ _ z⟩
  refine ⟨_, rfl, o, dx, _, rfl, O4.eo, lO_log _ _ _ _, o, A.O, dx, c, b4, l, d, n, par, h, _, _, rfl, O4, fun lg H5 s5 e5 => ?_⟩
  have sm5 := Same.tr sm4 s5
  have O5 := O4.same s5
  refine ⟨_, rfl, _, _, dp_stL e5, dp_stL (spl4.same s5), stL_shaped _, stL_shaped _, _, rfl, ?_⟩
  refine ifF (by rw [List.nil_append, stL_eqv]; rfl) ?_
  refine ⟨_, rfl, o, dx, _, rfl, O5.eo, o, A.O, dx, c, b4, l, d, n, par, h, _, _, rfl, O5, _, rfl, Int.natCast_nonneg _, (by show ((1 : Nat) : Int) < 2 ^ 63; decide), ?_⟩
  refine ⟨rfl, _, rfl, ifF rfl ?_⟩
  refine ⟨_, rfl, _, rfl, _, rfl, fun o2 dx2 ho2 hdx2 hne2 => ⟨o2, A.O, dx2, c, a, n, par, h, rfl, rfl, rfl, upd_same, .inl rfl, mk1 O5.ec ho2 hdx2, mk1 (sm5 _ _ ha) ho2 hdx2, ok, vh, fun l2 d2 H6 nl2 nd2 ld2 k6 e6 el2 ed2 => ⟨rfl, ?_⟩⟩⟩
  have s6 : Same H5 H6 := mk2 ho2 hdx2 k6
  have sm6 := Same.tr sm5 s6
  have O6 := O5.same s6
  refine ⟨o, o2, dx, dx2, _, _, rfl, rfl, O6.eo, e6, o, A.O, dx, c, b4, _, _, o2, dx2, c, a, _, _, n, par, h, rfl, rfl, .inl rfl, O6.eo, e6, O6.ec, O6.ec, O6.eb, sm6 _ _ ha, true, rfl, _, rfl, ifF rfl ?_⟩
  -- people, preview, head
  refine ⟨_, rfl, o, dx, _, rfl, O6.eo, o, A.O, dx, _, b4, _, _, n, h, rfl, .inl rfl, O6.eo, O6.eb, n8, fun pp H7 ys s7 npp epp perm ris => ?_⟩
  have sm7 := Same.tr sm6 s7
  have O7 := O6.same s7
  obtain ⟨ppl_, ppd, ppo⟩ := O6.lne npp
  have ynd : ys.Nodup := perm.nodup_iff.mpr (ppl_nodup vh.inj n)
  have ymem : ∀ z, z ∈ ys ↔ Ppl h z := fun z => by rw [perm.mem_iff, mem_pplV vh]
  have yl : ys.length ≤ 8 := by rw [perm.length_eq]; have := ppl_len (f := h) (n := n); omega
  refine ⟨_, rfl, o, dx, _, rfl, O7.eo, lO_preview _ _ _ _, [.ref o], [], rfl, rfl, by decide, fun tp ntp => ?_⟩
  have stp : Same H7 (upd H7 tp (.tup [])) := Same.new ntp
  refine ⟨o, dx, c, b4, l, d, n, par, h, _, _, tp, [], rfl, O7.same stp, upd_same, List.nodup_nil, fun x hx => (nomatch hx), by decide, (by show 1 ≤ 100; decide), (by rw [List.nil_append]; omega), fun b8 H8 g8 lv8 s8 e8 => ?_⟩
  have : g8 = h := Lvs.uniq ok vh lv8 Lvs.nil
  subst this
  have s8 := Same.tr stp s8
  have sm8 := Same.tr sm7 s8
  have O8 := O7.same s8
  refine ⟨_, rfl, _, _, dp_opts (SqT.of e8), dp_opts (SqT.of (sm8 _ _ ha)), _, rfl, ifF dne ?_⟩
  refine ⟨_, rfl, _, rfl, a, n, g8, rfl, sm8 _ _ ha, n8, fun p9 H9 zs s9 np9 e9 perm9 ris9 => ?_⟩
  have eyz : ys = zs := List.Perm.eq_of_pairwise (fun a b _ _ h1 h2 => Int.le_antisymm h1 h2) ris ris9 (perm.trans perm9.symm)
  subst eyz
  have sm9 := Same.tr sm8 s9
  have O9 := O8.same s9
  have epp9 : H9 pp = some (.lst (ys.map V.int)) := s9 _ _ (s8 _ _ epp)
  refine ⟨_, _, dp_ints (SqL.of epp9), dp_ints (SqL.of e9), _, rfl, ifF dne ?_⟩
  refine ⟨_, rfl, o, dx, _, rfl, O9.eo, o, A.O, dx, _, b4, _, _, n, g8, rfl, .inl rfl, O9.eo, O9.eb, np, ?_⟩
  refine ⟨_, rfl, a, _, 0, _, rfl, rfl, SqT.of (sm9 _ _ ha), arV_at (k := 0) np, _, _, dp_oV _, dp_oV _, _, rfl, ifF dne ?_⟩
  -- the states
  refine ⟨_, rfl, by show 1 ≤ sizeLine; decide, fun sl nsl => ?_⟩
  obtain ⟨sll, sld, slo⟩ := O9.lne nsl
  have s10 : Same H9 (upd H9 sl (.lst [.ref b])) := Same.new nsl
  have ppsl : pp ≠ sl := ne_of_none epp9 nsl
  refine ⟨_, rfl, pp, rfl, ⟨_, SqL.of (s10 _ _ epp9)⟩, ?_⟩
  refine for_it walk_list (fun i σ H' => ∃ (b' : Addr) (f' : Arr) (es' : List Ent) (ss' : List Stp) (u1 u2 u3 : Option V), σ = [some (.ref c), some (.ref b), some (.ref a), some (.ref o), some (.ref pl), some (.ref pp), some (.ref sl), u1, u2, u3] ∧ Same H H' ∧ Of A H' o A.O dx c b' l d n par f' es' ss' ∧
      Lvs n par g8 (ys.take i) f' ∧ PlaysTo n par g ss' f' ∧ es'.length = 1 + i ∧ ss'.length ≤ 100 + i ∧ H' pp = some (.lst (ys.map V.int)) ∧ H' sl = some (.lst (es'.map fun e => V.ref e.b)) ∧ (∃ e r, es' = e :: r ∧ e.k = 0))
    ⟨b4, g8, _, _, _, _, _, rfl, Same.tr sm9 s10, O9.same s10, Lvs.nil, pt, rfl, lss, s10 _ _ epp9, upd_same, _, [], rfl, rfl⟩ (fun i σ H' _ x => by obtain ⟨_, _, _, _, _, _, _, _, _, _, _, _, _, _, x, _⟩ := x; exact SqL.of x) ?_ ?_
  · rintro i x σ H11 H12 hi ⟨b', f', es', ss', u1, u2, u3, rfl, sm, O, lv, pt', el', sl', hpp, hsl, e0, r0, er0, ek0⟩ ⟨rfl, ex⟩
    rw [List.getElem?_map] at ex
    obtain ⟨x, hx, rfl⟩ := Option.map_eq_some_iff.mp ex
    have hxm := List.mem_of_getElem? hx
    have il : i < ys.length := (List.getElem?_eq_some_iff.mp hx).1
    have nx : x ∉ ys.take i := by
      intro hm
      have s : ys.take (i + 1) = ys.take i ++ [x] := by rw [List.take_add_one, hx]; rfl
      have := List.Nodup.sublist (List.take_sublist (i + 1) _) ynd
      rw [s, List.nodup_append] at this
      exact this.2.2 x hm x (by simp) rfl
    obtain ⟨v1, p1, _⟩ := lv.val vh
    have px : Ppl f' x := (p1 x).mpr ⟨(ymem x).mp hxm, nx⟩
    have x0 : 0 ≤ x := by obtain ⟨k, hk⟩ := px; exact v1.nn _ _ hk
    refine ⟨_, rfl, .inl ⟨rfl, _, SqL.of hsl⟩, _, rfl, o, dx, _, rfl, O.eo, o, A.O, dx, _, _, _, _, rfl, .inl rfl, O.eo, sl, _, _, rfl, rfl, hsl, by rw [List.length_map]; exact small1000 (by omega), ?_⟩
    obtain ⟨H13, eH13⟩ : ∃ H13, H13 = upd H12 sl (.lst ((es'.map fun e => V.ref e.b) ++ [.ref b'])) := ⟨_, rfl⟩
    rw [← eH13]
    have k13 : Kp sl H12 H13 := by rw [eH13]; exact Kp.upd_
    have hsl13 : H13 sl = some (.lst ((es'.map fun e => V.ref e.b) ++ [.ref b'])) := by rw [eH13]; exact upd_same
    clear eH13
    have O13 := O.kp k13 hsl sll sld
    have sm13 : Same H H13 := fun y u e => k13 _ _ (fun z => by subst z; rw [sm9.free nsl] at e; cases e) (sm _ _ e)
    have hpp13 := k13 _ _ ppsl hpp
    -- shown = office.preview(person)
    refine ⟨_, rfl, o, dx, _, rfl, O13.eo, lO_preview _ _ _ _, _, rfl, [.ref o], [.int x], rfl, rfl, (by show 1 ≤ sizeLine; decide), fun t1 nt1 => ?_⟩
    have st1 : Same H13 (upd H13 t1 (.tup [.int x])) := Same.new nt1
    refine ⟨o, dx, c, b', l, d, n, par, f', _, _, t1, [x], rfl, O13.same st1, upd_same, by simp, fun y hy => (by rw [List.mem_singleton] at hy; subst hy; exact px), (by show 1 ≤ 8; decide), by omega, by omega, fun b14 H14 g14 lv14 s14 e14 => ?_⟩
    have s14 := Same.tr st1 s14
    have O14 := O13.same s14
    refine ⟨_, rfl, _, rfl, o, dx, _, rfl, O14.eo, o, A.O, dx, c, b', l, d, n, par, f', _, _, x, rfl, rfl, O14, x0, _, rfl, _, rfl, ?_⟩
    refine ifF (by rw [inV_ar (by obtain ⟨k, hk⟩ := px; exact ⟨k, v1.lt hk, hk⟩)]; rfl) ?_
    refine ⟨_, rfl, o, dx, _, rfl, O14.eo, lO_leave _ _ _ _, _, rfl, [.ref o], [.int x], rfl, rfl, (by show 1 ≤ sizeLine; decide), fun t2 nt2 => ?_⟩
    have st2 : Same H14 (upd H14 t2 (.tup [.int x])) := Same.new nt2
    refine ⟨o, dx, c, b', l, d, n, par, f', _, _, t2, [x], rfl, O14.same st2, upd_same, by simp, fun y hy => (by rw [List.mem_singleton] at hy; subst hy; exact px), (by show 1 ≤ 8; decide), by omega, by omega, fun b15 H15 g15 lv15 k15 O15 => ?_⟩
    have k15 := KpS.after st2 k15
    have := Lvs.uniq ok v1 lv15 lv14
    subst this
    have sm15 := same_new (Same.tr sm13 s14) ho hl hd k15
    obtain ⟨q1, qe1, _⟩ := O14.el
    obtain ⟨q2, qe2, _⟩ := O14.ed
    have e15 : H15 b14 = some (.tup (arV n g15)) := kpS_tup O14.eo qe1 qe2 k15 _ _ e14
    refine ⟨_, rfl, _, _, dp_opts (SqT.of O15.eb), dp_opts (SqT.of e15), _, rfl, ifF dne ?_⟩
    obtain ⟨v15, p15, _⟩ := lv15.val v1
    refine ⟨_, rfl, _, rfl, o, dx, _, rfl, O15.eo, o, A.O, dx, c, b15, l, d, n, par, g15, _, _, x, rfl, rfl, O15, x0, _, rfl, _, rfl, ?_⟩
    refine ifF (inV_not fun k hk => ((p15 x).mp ⟨k, hk⟩).2 (by simp)) ?_
    have hpp15 : H15 pp = some (.lst (ys.map V.int)) := k15 _ _ (nin3 ppo ppl_ ppd) (s14 _ _ hpp13)
    have hsl15 := k15 _ _ (nin3 slo sll sld) (s14 _ _ hsl13)
    refine ⟨b15, g15, _, _, _, _, _, rfl, sm15, O15, ?_, pt'.append lv15.plays, ?_, ?_, hpp15, ?_, e0, r0 ++ [⟨b', ss'.length, f'⟩], by rw [er0]; rfl, ek0⟩
    · rw [List.take_add_one, hx]
      exact lvs_append lv lv15
    · rw [List.length_append, el']; rfl
    · rw [List.length_append]; show _ + 1 ≤ _; omega
    · rw [hsl15, List.map_append]; rfl
  · rintro σ H11 ⟨b', f', es', ss', u1, u2, u3, rfl, sm, O, lv, pt', el', sl', hpp, hsl, e0, r0, er0, ek0⟩
    -- the log is a plan
    refine ⟨_, rfl, _, rfl, _, rfl, o, dx, _, rfl, O.eo, lO_log _ _ _ _, o, A.O, dx, c, b', l, d, n, par, f', _, _, rfl, O, fun lg H12 s12 e12 => ?_⟩
    have sm12 := Same.tr sm s12
    have O12 := O.same s12
    refine ⟨c, b, lg, n, par, g, ss', f', rfl, rfl, rfl, sm12 _ _ hc, sm12 _ _ hb, ok, vg, e12, pt', fun b13 H13 s13 nb13 e13 => ?_⟩
    have O13 := O12.same s13
    have sm13 := Same.tr sm12 s13
    refine ⟨_, rfl, o, dx, _, rfl, O13.eo, o, A.O, dx, _, _, _, _, rfl, .inl rfl, O13.eo, _, _, dp_opts (SqT.of e13), dp_opts (SqT.of O13.eb), _, rfl, ifF dne ?_⟩
    have hpp13 := s13 _ _ (s12 _ _ hpp)
    have hsl13 := s13 _ _ (s12 _ _ hsl)
    refine ⟨_, rfl, o, dx, _, rfl, O13.eo, o, A.O, dx, c, b', l, d, n, par, f', _, _, rfl, O13, _, rfl, Int.natCast_nonneg _, (by rw [List.length_map] at el'; omega), ?_⟩
    refine ⟨_, rfl, pp, _, rfl, .inl (SqL.of hpp13), _, _, rfl, rfl, rfl, _, rfl, ?_⟩
    refine ifFn (decide_eq_true (congrArg V.int (by rw [el']; omega))) ?_
    -- undo, one by one
    refine ⟨_, rfl, sl, _, rfl, SqL.of hsl13, fun rl nrl => ?_⟩
    have srl : Same H13 (upd H13 rl (.lst (es'.map fun e => V.ref e.b).reverse)) := Same.new nrl
    obtain ⟨rll, rld, rlo⟩ := O13.lne nrl
    refine ⟨rl, rfl, ⟨_, SqL.of upd_same⟩, ?_⟩
    have ml : (es'.map fun e => V.ref e.b).reverse.length = es'.length := by rw [List.length_reverse, List.length_map]
    refine for_it walk_list (fun j σ H' => ∃ (b'' d'' : Addr) (f'' : Nat → Option Int) (ss'' : List Stp) (u : Option V), σ = [some (.ref c), some (.ref b), some (.ref a), some (.ref o), some (.ref pl), some (.ref pp), some (.ref sl), u1, u2, u] ∧ Same H H' ∧ Of A H' o A.O dx c b'' l d'' n par f'' (es'.take (es'.length - j)) ss'' ∧
        H' rl = some (.lst (es'.map fun e => V.ref e.b).reverse) ∧ rl ≠ d'' ∧ H d'' = none ∧ (j = es'.length → ss'' = []))
      ⟨b', d, f', ss', _, rfl, Same.tr sm13 srl, by rw [Nat.sub_zero, List.take_length]; exact O13.same srl, upd_same, rld, hd, fun z => by omega⟩ (fun j σ H' _ x => by obtain ⟨_, _, _, _, _, _, _, _, x, _⟩ := x; exact SqL.of x) ?_ ?_
    · rintro j x σ H14 H15 hj ⟨b'', d'', f'', ss'', u, rfl, smj, Oj, hrl, rd'', hd'', _⟩ ⟨rfl, ex⟩
      rw [ml] at hj
      rw [List.getElem?_reverse (by rw [List.length_map]; exact hj), List.getElem?_map, List.length_map] at ex
      obtain ⟨e, he, rfl⟩ := Option.map_eq_some_iff.mp ex
      have et : es'.take (es'.length - j) = es'.take (es'.length - (j + 1)) ++ [e] := by
        rw [show es'.length - j = (es'.length - (j + 1)) + 1 by omega, List.take_add_one, show es'.length - (j + 1) = es'.length - 1 - j by omega, he]; rfl
      rw [et] at Oj
      refine ⟨_, rfl, o, dx, _, rfl, Oj.eo, lO_undo _ _ _ _, o, dx, c, b'', l, d'', n, par, f'', _, ss'', e, rfl, Oj, fun d2 H16 k16 nd2 O16 => ?_⟩
      have sm16 := same_new smj ho hl hd'' k16
      have hrl16 : H16 rl = some (.lst (es'.map fun e => V.ref e.b).reverse) := k16 _ _ (nin3 rlo rll rd'') hrl
      have rd2 : rl ≠ d2 := ne_of_none hrl nd2
      refine ⟨_, rfl, o, dx, _, rfl, O16.eo, o, A.O, dx, _, _, _, _, rfl, .inl rfl, O16.eo, _, rfl, _, _, dp_opts (SqT.of O16.eb), dp_opts (SqT.of O16.eb), _, rfl, ifF dne ?_⟩
      refine ⟨e.b, d2, e.f, _, _, rfl, sm16, O16, hrl16, rd2, smj.free nd2, fun z => ?_⟩
      have h0 : es'.length - 1 - j = 0 := by omega
      rw [h0, er0] at he
      have : e0 = e := by simpa using he
      rw [← this, ek0]
      exact List.take_zero
    · rintro σ H14 ⟨b'', d'', f'', ss'', u, rfl, smj, Oj, hrl, rd'', hd'', hss⟩
      rw [ml] at hss Oj
      have hss := hss rfl
      subst hss
      rw [Nat.sub_self, List.take_zero] at Oj
      refine ⟨_, rfl, o, dx, _, rfl, Oj.eo, lO_log _ _ _ _, o, A.O, dx, c, b'', l, d'', n, par, f'', _, _, rfl, Oj, fun lg2 H15 s15 e15 => ?_⟩
      obtain ⟨ps15, pe15, pp15⟩ := e15
      cases pp15
      refine ⟨Nat.zero_le _, fun z nz => ⟨[], [], dp_ints (ns := []) (SqL.of (Same.new nz _ _ pe15)), dp_ints (ns := []) (SqL.of upd_same), true, rfl, iteT ?_⟩⟩
      have O15 := (Oj.same s15).same (Same.new (o := .lst []) nz)
      refine ⟨_, rfl, o, dx, _, rfl, O15.eo, o, A.O, dx, c, b'', l, d'', n, par, f'', _, _, rfl, O15, _, rfl, by decide, by decide, ?_⟩
      refine ⟨rfl, ?_⟩
      exact q _ (Same.tr smj (Same.tr s15 (Same.new nz)))
end MV
end

section
set_option Elab.async false
set_option autoImplicit false
set_option linter.all false
set_option maxRecDepth 100000
set_option maxHeartbeats 4000000
namespace MV
open PySem PySem.Spec PyProof.Rows L2 L3 MU PySem.W
variable {P : Program} {w : World} {K : PySem.W.Frag} {mg : Str → Option Value} {base : Heap} {A : Ad}
theorem openL_head {n : Nat} {par : Nat → Nat} {f : Nat → Option Int} {e : Nat} (he : e < n) (h1 : openB par f e = true) (h2 : ∀ k, k < e → openB par f k = false) : (openL par f n)[0]? = some e := by
  unfold openL
  rw [← List.head?_eq_getElem?, List.head?_filter, List.find?_range_eq_some]
  exact ⟨h1, List.mem_range.mpr he, fun j hj => by rw [h2 j hj]; rfl⟩
abbrev sp_law_strict_is_correct : Sp := sp2 fun x y H Q => ∃ (c l : Addr) (n : Nat) (par : Nat → Nat) (xs : List Int), x = .ref c ∧ y = .ref l ∧ H c = some (.tup (chV n par)) ∧ H l = some (.lst (xs.map V.int)) ∧ TreeOk n par ∧ xs.Nodup ∧ (∀ x ∈ xs, 0 ≤ x) ∧ xs.length = n ∧ ∀ H', Same H H' → Q (.bl true) H'
theorem g_law_strict_is_correct (T : Fx K mg A) : Gf P w K mg base 8 "_law_strict_is_correct" ["_law_chart", "_law_people_here"] (sp_law_strict_is_correct) := by
  refine gf2 T.d_law_strict_is_correct sc_law_strict_is_correct (fun _ _ _ _ _ _ us hl => match us, hl with | [_, _], _ => rfl) ?_
  obtain ⟨mcS, pS, gS, rdS, cmS, FvS⟩ := g_Office_vacant (P := P) (w := w) (base := base) T
  rintro v1 v2 f cdv A' outer s E H Q hr ⟨c, pl, n, par, xs, rfl, rfl, hc, hpl, ok, xnd, xn, xl, q⟩
  refine ⟨_, (pss_cons (ps_set (i := 2) sc_law_strict_is_correct.nd rfl (by first | exact Or.inl rfl | exact Or.inr rfl) (ClX.pe_cmeth (pe_glob rfl T.g_Strict (v := .ref A.S) rfl) rdS cmS FvS (hr.mono (by decide)) pass0 (pa_cons (pv 0) pa_nil)))
      (pss_cons (ps_for PassesOwn.never rfl (pi_list (pv 1)) (pg_name (i := 3) sc_law_strict_is_correct.nd rfl (by first | exact Or.inl rfl | exact Or.inr rfl))
      (pss_cons (ps_set (i := 4) sc_law_strict_is_correct.nd rfl (by first | exact Or.inl rfl | exact Or.inr rfl) (pe_ix ix_list (pe_g (g_open_posts T) hr (pa_cons (pv 0) (pa_cons (pe_p (g_Office_arrangement T) (.inr rfl) T.cl_S hr (pv 2)) pa_nil))) pe_int (fun _ _ => rfl)))
      (pss_one (ps_if (PW.pt (pw_or (pt_cmpR (neP (Tup (Option Int)) hr (by decide)) (pe_m (g_StrictOffice_admit T) rfl T.cl_S hr (pv 2) (pa_cons (pv 3) (pa_cons (pv 4) pa_nil))) (pe_p (g_Office_arrangement T) (.inr rfl) T.cl_S hr (pv 2)) (nomark _)) (pw_or1 (pt_cmpR (ninM (C := A.S) (g_Office_contains T) (.inr rfl) hr) (pv 3) (pv 2) (by rfl))))) (pss_one (ps_ret pe_bl)) pss_nil))))
      (pss_cons (ps_set (i := 5) sc_law_strict_is_correct.nd rfl (by first | exact Or.inl rfl | exact Or.inr rfl) (pe_cmpR (eqM (C := A.S) (Cb := A.O) (g_Office_eq T) (.inr rfl) hr T.nf_SO) (pv 2) (pe_mk (g_Office_init T) hr (pa_cons (pv 0) (pa_cons (pe_p (g_Office_arrangement T) (.inr rfl) T.cl_S hr (pv 2)) pa_nil))) (nomark _)))
      (pss_one (ps_ret (pe_and (pv 5) (pe_and (pe_cmpR (eqP (List Int) hr (by decide)) (pe_p (g_Office_people T) (.inr rfl) T.cl_S hr (pv 2)) (pe_callB cr_sortedI (by rfl) T.b_sorted (by decide +kernel) (pa_cons (pv 1) pa_nil)) (nomark _)) (pe_one (pe_cmpR op_eq (pe_callB (lenM (C := A.S) (g_Office_len T) (.inr rfl) hr) (by rfl) T.b_len (by decide +kernel) (pa_cons (pv 2) pa_nil)) (pe_callB call_len_seq (by rfl) T.b_len (by decide +kernel) (pa_cons (pv 1) pa_nil)) (nomark _)))))))))), ?_⟩
  have n8 := ok.le
  have np := ok.pos
  refine ⟨rfl, _, rfl, c, n, par, rfl, rfl, hc, ok, fun o dx b l d H1 s1 ho hl hd ld e1 eb el ed => ?_⟩
  have O1 : Of A H1 o A.S dx c b l d n par (fun _ => none) [] [] := ⟨.inr rfl, e1, s1 _ _ hc, eb, ok, valid_none, ld, ⟨[], el, .nil⟩, fun e he => (nomatch he), ⟨[], ed, .nil⟩⟩
  have pll : pl ≠ l := ne_of_none hpl hl
  have pld : pl ≠ d := ne_of_none hpl hd
  refine ⟨_, rfl, pl, rfl, ⟨_, SqL.of (s1 _ _ hpl)⟩, ?_⟩
  refine for_it walk_list (fun i σ H' => ∃ (b' : Addr) (f' : Nat → Option Int) (es' : List Ent) (ss' : List Stp) (u1 u2 u3 : Option V), σ = [some (.ref c), some (.ref pl), some (.ref o), u1, u2, u3] ∧ Same H H' ∧ Of A H' o A.S dx c b' l d n par f' es' ss' ∧
      (∀ z, Ppl f' z ↔ z ∈ xs.take i) ∧ es'.length = i ∧ ss'.length = i)
    ⟨b, _, [], [], _, _, _, rfl, s1, O1, fun z => ⟨fun hh => (by obtain ⟨k, hk⟩ := hh; cases hk), fun hh => (by rw [List.take_zero] at hh; cases hh)⟩, rfl, rfl⟩ (fun i σ H' _ x => by obtain ⟨_, _, _, _, _, _, _, _, x, _⟩ := x; exact SqL.of (x _ _ hpl)) ?_ ?_
  · rintro i x σ H2 H3 hi ⟨b', f', es', ss', u1, u2, u3, rfl, sm, O, pf, el', sl'⟩ ⟨rfl, ex⟩
    rw [List.getElem?_map] at ex
    obtain ⟨x, hx, rfl⟩ := Option.map_eq_some_iff.mp ex
    have hxm := List.mem_of_getElem? hx
    have il : i < xs.length := (List.getElem?_eq_some_iff.mp hx).1
    have et : xs.take (i + 1) = xs.take i ++ [x] := by rw [List.take_add_one, hx]; rfl
    have nx : x ∉ xs.take i := by
      intro hm
      have := List.Nodup.sublist (List.take_sublist (i + 1) _) xnd
      rw [et, List.nodup_append] at this
      exact this.2.2 x hm x (by simp) rfl
    obtain ⟨e, en, eo, ek⟩ := exists_open ok O.va.inj (L := xs.take i) (fun k z hk => (pf z).mp ⟨k, hk⟩) (by rw [List.length_take]; omega)
    refine ⟨_, rfl, _, rfl, o, dx, _, rfl, O.eo, o, A.S, dx, _, _, _, _, rfl, .inr rfl, O.eo, c, b', n, par, f', rfl, rfl, O.ec, O.eb, ok, O.va, fun ol H4 s4 eol => ?_⟩
    refine ⟨ol, _, _, .int (e : Nat), rfl, rfl, SqL.of eol, atI_nat (by unfold natV; rw [List.getElem?_map, openL_head en eo ek]; rfl), ?_⟩
    have O4 := O.same s4
    have sm4 := Same.tr sm s4
    refine ⟨_, rfl, o, dx, _, rfl, O4.eo, lO_admit _ _ _ _, _, rfl, _, rfl, o, dx, c, b', l, d, n, par, f', es', ss', x, e, rfl, rfl, rfl, O4, xn x hxm, fun h => nx ((pf x).mp h), en, eo, ek, by omega, by omega, fun b5 H5 g5 v5 p5 k5 O5 => ?_⟩
    have sm5 := same_new sm4 ho hl hd k5
    refine ⟨_, rfl, o, dx, _, rfl, O5.eo, o, A.S, dx, _, _, _, _, rfl, .inr rfl, O5.eo, _, _, dp_opts (SqT.of O5.eb), dp_opts (SqT.of O5.eb), _, rfl, ifF dne ?_⟩
    have px : Ppl g5 x := (p5 x).mpr (.inr rfl)
    refine ⟨_, rfl, _, rfl, o, dx, _, rfl, O5.eo, o, A.S, dx, c, b5, l, d, n, par, g5, _, _, x, rfl, rfl, O5, xn x hxm, _, rfl, _, rfl, ?_⟩
    refine ifF (by rw [inV_ar (by obtain ⟨k, hk⟩ := px; exact ⟨k, v5.lt hk, hk⟩)]; rfl) ?_
    refine ⟨b5, g5, _, _, _, _, _, rfl, sm5, O5, fun z => ?_, by rw [List.length_append, el']; rfl, by rw [List.length_append, sl']; rfl⟩
    rw [p5, pf, et, List.mem_append, List.mem_singleton]
  · rintro σ H2 ⟨b', f', es', ss', u1, u2, u3, rfl, sm, O, pf, el', sl'⟩
    rw [List.length_map] at el' sl' pf
    rw [List.take_length] at pf
    refine ⟨_, rfl, _, rfl, _, rfl, o, dx, _, rfl, O.eo, o, A.S, dx, _, _, _, _, rfl, .inr rfl, O.eo, fun o2 dx2 ho2 hdx2 hne2 => ⟨o2, A.O, dx2, c, b', n, par, f', rfl, rfl, rfl, upd_same, .inl rfl, mk1 O.ec ho2 hdx2, mk1 O.eb ho2 hdx2, ok, O.va, fun l2 d2 H6 nl2 nd2 ld2 k6 e6 el2 ed2 => ⟨rfl, ?_⟩⟩⟩
    have s6 : Same H2 H6 := mk2 ho2 hdx2 k6
    have sm6 := Same.tr sm s6
    have O6 := O.same s6
    refine ⟨o, o2, dx, dx2, _, _, rfl, rfl, O6.eo, e6, o, A.S, dx, c, b', _, _, o2, dx2, c, b', _, _, n, par, f', rfl, rfl, .inr rfl, O6.eo, e6, O6.ec, O6.ec, O6.eb, O6.eb, true, rfl, ?_⟩
    refine ⟨_, rfl, true, rfl, iteT ?_⟩
    refine ⟨_, rfl, o, dx, _, rfl, O6.eo, o, A.S, dx, _, b', _, _, n, f', rfl, .inr rfl, O6.eo, O6.eb, n8, fun pp H7 ys s7 npp epp perm ris => ?_⟩
    have sm7 := Same.tr sm6 s7
    have O7 := O6.same s7
    refine ⟨_, rfl, pl, xs, rfl, SqL.of (sm7 _ _ hpl), fun zs pz perm2 ris2 npz => ?_⟩
    have pxs : (ppl f' n).Perm xs := by
      rw [List.perm_ext_iff_of_nodup (ppl_nodup O.va.inj n) xnd]
      intro z
      rw [mem_pplV O.va, pf]
    have eyz : ys = zs := List.Perm.eq_of_pairwise (fun a b _ _ h1 h2 => Int.le_antisymm h1 h2) ris ris2 (perm.trans (pxs.trans perm2.symm))
    subst eyz
    have s8 : Same H7 (upd H7 pz (.lst (ys.map V.int))) := Same.new npz
    have O8 := O7.same s8
    have sm8 := Same.tr sm7 s8
    refine ⟨_, _, dp_ints (SqL.of (s8 _ _ epp)), dp_ints (SqL.of upd_same), true, congrArg V.bl (decide_eq_true rfl), iteT ?_⟩
    refine ⟨_, rfl, o, dx, _, rfl, O8.eo, o, A.S, dx, c, b', l, d, n, par, f', _, _, rfl, O8, _, rfl, Int.natCast_nonneg _, (by omega), ?_⟩
    refine ⟨_, rfl, pl, _, rfl, .inl (SqL.of (sm8 _ _ hpl)), rfl, ?_⟩
    rw [decide_eq_true (congrArg V.int (by rw [List.length_map, el']))]
    exact q _ sm8
def a_law (K : PySem.W.Frag) : V → Hp → VK → Prop := fun x H Q => ∃ (a : Addr) (ns : List Int), x = .ref a ∧ SqL K H a (ns.map V.int) ∧ ∀ H', Q (.bl true) H'
theorem bd_law (T : Fx K mg A) (v1 : V) : Bd P w K mg base 8 ["_law_script", "_law_index", "_law_generator_here", "_law_chart", "_law_before", "_law_after", "_law_people_here"] "law" s_law [v1] (a_law K v1) := by
  rintro f cdv A' outer s E H Q hr ⟨a, ns, rfl, ha, q⟩
  refine ⟨_, (pss_cons (ps_for PassesOwn.never rfl (pi_range1 (by rfl) T.b_range (pa_cons pe_int pa_nil)) (pg_name (i := 1) sc_law.nd rfl (by first | exact Or.inl rfl | exact Or.inr rfl))
      (pss_cons (ps_set (i := 2) sc_law.nd rfl (by first | exact Or.inl rfl | exact Or.inr rfl) (pe_g (g_law_generator T) hr (pa_cons (pv 0) (pa_cons (pv 1) pa_nil))))
      (pss_cons (ps_set (i := 3) sc_law.nd rfl (by first | exact Or.inl rfl | exact Or.inr rfl) (pe_g (g_law_random_chart T) hr (pa_cons (pv 2) (pa_cons pe_int pa_nil))))
      (pss_cons (ps_set (i := 4) sc_law.nd rfl (by first | exact Or.inl rfl | exact Or.inr rfl) (pe_g (g_law_random_arrangement T) hr (pa_cons (pv 2) (pa_cons (pv 3) pa_nil))))
      (pss_cons (ps_set (i := 5) sc_law.nd rfl (by first | exact Or.inl rfl | exact Or.inr rfl) (pe_g (g_law_random_arrangement T) hr (pa_cons (pv 2) (pa_cons (pv 3) pa_nil))))
      (pss_cons (ps_if (PW.pt (pw_or (pt_not (pt_val (pe_g (g_law_is_correct T) hr (pa_cons (pv 3) (pa_cons (pv 4) (pa_cons (pv 5) pa_nil)))))) (pw_or1 (pt_not (pt_val (pe_g (g_law_is_correct T) hr (pa_cons (pv 3) (pa_cons (pv 5) (pa_cons (pv 4) pa_nil))))))))) (pss_one (ps_ret pe_bl)) pss_nil)
      (pss_cons (ps_set (i := 6) sc_law.nd rfl (by first | exact Or.inl rfl | exact Or.inr rfl) (pe_g (g_law_shuffled T) hr (pa_cons (pv 2) (pa_cons (pe_g (g_law_random_people T) hr (pa_cons (pv 2) (pa_cons (pe_callB call_len_seq (by rfl) T.b_len (by decide +kernel) (pa_cons (pv 3) pa_nil)) pa_nil))) pa_nil))))
      (pss_one (ps_if (pt_not (pt_val (pe_g (g_law_strict_is_correct T) hr (pa_cons (pv 3) (pa_cons (pv 6) pa_nil))))) (pss_one (ps_ret pe_bl)) pss_nil)))))))))
      (pss_one (ps_ret pe_bl))), ?_⟩
  refine ⟨2, rfl, by decide, by decide, ?_⟩
  refine for_it walk_range (fun i σ H' => (∃ u1 u2 u3 u4 u5 u6, σ = [some (.ref a), u1, u2, u3, u4, u5, u6]) ∧ Same H H') ⟨⟨_, _, _, _, _, _, rfl⟩, Same.refl'⟩ (fun i σ H' _ _ => trivial) ?_ ?_
  · rintro i x σ H1 H2 hi ⟨⟨u1, u2, u3, u4, u5, u6, rfl⟩, sm⟩ ⟨rfl, rfl⟩
    have il : i < 2 := hi
    refine ⟨_, rfl, _, rfl, a, ns, i, rfl, congrArg V.int (Int.zero_add _), sm.seq ha, by omega, fun g H3 s3 ng g3 => ?_⟩
    refine ⟨_, rfl, g, 10000, rfl, rfl, g3, by decide, fun c H4 n par ok k4 g4 ec => ?_⟩
    have n8 := ok.le
    have cg : c ≠ g := by obtain ⟨_, _, _, eg, _⟩ := g4; exact ne_of ec eg (by intro z; cases z)
    refine ⟨_, rfl, _, rfl, g, c, n, par, _, rfl, rfl, g4, by decide, ec, ok, fun b H5 f5 v5 k5 g5 eb => ?_⟩
    have bg : b ≠ g := by obtain ⟨_, _, _, eg, _⟩ := g5; exact ne_of eb eg (by intro z; cases z)
    have ec5 := k5 _ _ cg ec
    refine ⟨_, rfl, _, rfl, g, c, n, par, _, rfl, rfl, g5, by decide, ec5, ok, fun b2 H6 f6 v6 k6 g6 eb2 => ?_⟩
    have ec6 := k6 _ _ cg ec5
    have eb6 := k6 _ _ bg eb
    refine ⟨_, rfl, _, rfl, _, rfl, c, b, b2, n, par, f5, f6, rfl, rfl, rfl, ec6, eb6, eb2, ok, v5, v6, fun H7 s7 => ⟨_, rfl, iteF ?_⟩⟩
    refine ⟨_, rfl, _, rfl, _, rfl, c, b2, b, n, par, f6, f5, rfl, rfl, rfl, s7 _ _ ec6, s7 _ _ eb2, s7 _ _ eb6, ok, v6, v5, fun H8 s8 => ⟨_, rfl, iteF ?_⟩⟩
    have s68 := Same.tr s7 s8
    have ec8 := s68 _ _ ec6
    have g8 := g6.same s68
    refine ⟨_, rfl, _, rfl, _, rfl, c, _, rfl, .inr (SqT.of ec8), ?_⟩
    refine ⟨g, n, _, rfl, by rw [arV_len], g8, by decide, by omega, fun r H9 xs rs xl k9 g9 er rg => ?_⟩
    refine ⟨g, r, xs, _, rfl, rfl, g9, by decide, er, rg, by omega, fun r2 H10 ys perm k10 g10 er2 nr2 => ?_⟩
    have ec10 := k10 _ _ cg (k9 _ _ cg ec8)
    refine ⟨_, rfl, _, rfl, c, r2, n, par, ys, rfl, rfl, ec10, er2, ok, perm.nodup_iff.mpr (lt_nodup rs.1), fun x hx => rs.2 x (perm.mem_iff.mp hx), by rw [perm.length_eq]; exact xl, fun H11 s11 => ⟨_, rfl, iteF ⟨⟨_, _, _, _, _, _, rfl⟩, ?_⟩⟩⟩
    have kg : Kp g H3 H11 := Kp.tr k4 (Kp.tr k5 (Kp.tr k6 (Kp.tr (Kp.same s68) (Kp.tr k9 (Kp.tr k10 (Kp.same s11))))))
    exact fun y u e => kg _ _ (ne_of_none (sm _ _ e) ng) (s3 _ _ (sm _ _ e))
  · rintro σ H1 ⟨_, sm⟩
    exact q H1
end MV
end

section
set_option Elab.async false
set_option autoImplicit false
set_option linter.all false
set_option maxRecDepth 100000
set_option maxHeartbeats 0
namespace MH
open PySem PySem.Spec PyProof.Rows L2 L3 MV He
/-! the facts of the top -/
def recG (K : PySem.W.Frag) (p : Addr) (T : String) : Addr := match PySem.W.recIn K p T with
  | some (.ref g :: _) => g
  | _ => 0
def recB (K : PySem.W.Frag) (p : Addr) (T : String) : Bool := match PySem.W.recIn K p T with
  | some (.ref _ :: _) => true
  | _ => false
theorem recB_ok {K : PySem.W.Frag} {p : Addr} {T : String} (h : recB K p T = true) : ∃ rest, PySem.W.recIn K p T = some (.ref (recG K p T) :: rest) := by
  unfold recB at h
  unfold recG
  split at h
  · rename_i g rest e
    rw [e]; exact ⟨rest, rfl⟩
  · cases h
def cmB (K : PySem.W.Frag) (C : Addr) (mc : Value) (m : Str) : Bool := match PySem.W.findCls K (.ref C) mc m with
  | some (.get a b c d) => decide (a = .builtin "classmethod.__get__") && (decide (b = .ref (ma K C m)) && (decide (c = .none) && decide (d = .ref C)))
  | _ => false
theorem cmB_ok {K : PySem.W.Frag} {C : Addr} {mc : Value} {m : Str} (h : cmB K C mc m = true) : PySem.W.findCls K (.ref C) mc m = some (.get (.builtin "classmethod.__get__") (.ref (ma K C m)) .none (.ref C)) := by
  unfold cmB at h
  split at h
  · rename_i a b c d e
    obtain ⟨h1, h⟩ := ba h
    obtain ⟨h2, h⟩ := ba h
    obtain ⟨h3, h4⟩ := ba h
    rw [e, of_decide_eq_true h1, of_decide_eq_true h2, of_decide_eq_true h3, of_decide_eq_true h4]
  · cases h
/-- a def by where it stands -/
structure DG where
  at_ : PySem.W.Frag → Addr
  name : Str
  qual : Str
  params : Arguments
  body : List Stmt
  scope : Scope
def fnG (K : PySem.W.Frag) (a : Addr) : FnW := match K.lookup a with
  | some ⟨_, _, .func fd, _⟩ => some (fd.name, fd.qualname, fd.params, fd.body, fd.scope, fd.globals, fd.closure, fd.builtins)
  | _ => none
def DG.val (d : DG) : FnW := some (d.name, d.qual, d.params, .stmts d.body, d.scope, mainGlobals, [], builtinsNs)
def DG.ok (K : PySem.W.Frag) (d : DG) : Bool := PySem.W.keepIn K (.ref (d.at_ K)) && (match K.lookup (d.at_ K) with
  | some ⟨_, _, .func fd, _⟩ => PySem.W.codeIn K fd.code d.qual && (dflB K fd.defaults [] && kwdB K fd.kwdefaults [])
  | _ => false)
theorem DG.funD {K : PySem.W.Frag} {d : DG} (e : fnG K (d.at_ K) = d.val) (c : d.ok K = true) : ∃ fd, FunD K d.name d.qual d.params d.body d.scope [] [] (d.at_ K) fd := by
  obtain ⟨kp, c2⟩ := ba c
  unfold fnG at e
  cases q : K.lookup (d.at_ K) with
  | none =>
    rw [q] at c2
    cases c2
  | some o =>
    obtain ⟨oc, od, dt, osl⟩ := o
    rw [q] at c2 e
    cases dt with
    | func fd =>
      obtain ⟨n1, n2, n3, n4, n5, n6, n7, n8, n9, n10, n11, n12, n13, n14, n15⟩ := fd
      have e2 : (some (n1, n2, n3, n4, n5, n6, n7, n15) : FnW) = some (d.name, d.qual, d.params, .stmts d.body, d.scope, mainGlobals, [], builtinsNs) := e
      simp only [Option.some.injEq, Prod.mk.injEq] at e2
      obtain ⟨h1, h2, h3, h4, h5, h6, h7, h8⟩ := e2
      subst h1 h2 h3 h4 h5 h6 h7 h8
      have c3 : (PySem.W.codeIn K n13 d.qual && (dflB K n8 [] && kwdB K n9 [])) = true := c2
      obtain ⟨k1, k2⟩ := ba c3
      obtain ⟨k3, k4⟩ := ba k2
      exact ⟨_, ⟨oc, od, n8, n9, n10, n11, n12, n13, n14, osl, rfl, q, k1, dflB_ok k3, kwdB_ok k4⟩, kp⟩
    | _ => cases c2
/-- the addresses that the facts are about: the top's defs and classes, the classes' names, the methods, the getters, the code of each -/
def refsM (o : Obj) : List Addr := match o.data with
  | .func fd => refV fd.code
  | .cls cd => [cd.ns]
  | .dict es _ => es.toList.flatMap fun e => refV e.val
  | .fields vs => (match o.cls with
    | .type c => (match decide (c = "property") || decide (c = "classmethod") with
      | true => vs.toList.flatMap refV
      | false => [])
    | _ => [])
  | _ => []
def refsA (g : Addr → Option Obj) (a : Addr) : List Addr := match g a with
  | some o => refsM o
  | none => []
def asM (ts : List Str) (g : Addr → Option Obj) : List Addr :=
  let t := ts.map (ga (frG g [mainGlobals, cStatics]))
  let l1 := t.flatMap (refsA g)
  let l2 := l1.flatMap (refsA g)
  let l3 := l2.flatMap (refsA g)
  let l4 := l3.flatMap (refsA g)
  mainGlobals :: cStatics :: (t ++ (l1 ++ (l2 ++ (l3 ++ l4))))
abbrev AlM : Type := Bool × List FnW
def obsM (ex : List (PySem.W.Frag → Bool)) (fn : List DG) (K : PySem.W.Frag) : AlM := ((ex.all fun f => f K) && fn.all fun d => d.ok K, fn.map fun d => fnG K (d.at_ K))
def valM (fn : List DG) : AlM := (true, fn.map DG.val)
def obsMG (n : List Str) (ex : List (PySem.W.Frag → Bool)) (fn : List DG) (g : Addr → Option Obj) : AlM := obsM ex fn (frG g (asM n g))
def hookM (n : List Str) (ex : List (PySem.W.Frag → Bool)) (fn : List DG) : PySem.W.Hook where
  α := AlM
  obs := fun s => obsMG n ex fn s.heap.get?
  val := fun _ => valM fn
  says := fun _ h => ∃ K : PySem.W.Frag, K.In h ∧ obsM ex fn K = valM fn
  of := fun _ _ e => ⟨_, frG_in, e⟩
  keeps := fun _ _ _ ⟨K, hK, c⟩ k => ⟨K, PySem.W.Frag.In.keeps hK k, c⟩
theorem obsM_eq {n : List Str} {ex : List (PySem.W.Frag → Bool)} {fn : List DG} {g : Addr → Option Obj} {s : Shared} (h : ∀ a, g a = s.heap.get? a) : obsMG n ex fn g = (hookM n ex fn).obs s := by
  have e : g = s.heap.get? := funext h
  rw [e] <;> rfl
theorem saysM_fact {ex : List (PySem.W.Frag → Bool)} {fn : List DG} {K : PySem.W.Frag} (c : obsM ex fn K = valM fn) (i : Nat) {f : PySem.W.Frag → Bool} (h : ex[i]? = some f) : f K = true := by
  have c1 := (ba (show ((ex.all fun f => f K) && fn.all fun d => d.ok K) = true from congrArg (fun z : AlM => z.1) c)).1
  exact List.all_eq_true.mp c1 f (List.mem_of_getElem? h)
theorem saysM_def {ex : List (PySem.W.Frag → Bool)} {fn : List DG} {K : PySem.W.Frag} (c : obsM ex fn K = valM fn) (i : Nat) {d : DG} (h : fn[i]? = some d) : ∃ fd, FunD K d.name d.qual d.params d.body d.scope [] [] (d.at_ K) fd := by
  have c2 := (ba (show ((ex.all fun f => f K) && fn.all fun d => d.ok K) = true from congrArg (fun z : AlM => z.1) c)).2
  have e : fn.map (fun d => fnG K (d.at_ K)) = fn.map DG.val := congrArg (fun z : AlM => z.2) c
  have e2 : (fn.map fun d => fnG K (d.at_ K))[i]? = (fn.map DG.val)[i]? := by rw [e]
  rw [List.getElem?_map, List.getElem?_map, h] at e2
  exact DG.funD (Option.some.inj e2) (List.all_eq_true.mp c2 d (List.mem_of_getElem? h))
def d_is_whole : DG := ⟨(fun K => ga K "is_whole"), "is_whole", "is_whole", defArgs s_is_whole, defBody s_is_whole, defScope s_is_whole⟩
def d_chart_fault : DG := ⟨(fun K => ga K "chart_fault"), "chart_fault", "chart_fault", defArgs s_chart_fault, defBody s_chart_fault, defScope s_chart_fault⟩
def d_require_chart : DG := ⟨(fun K => ga K "require_chart"), "require_chart", "require_chart", defArgs s_require_chart, defBody s_require_chart, defScope s_require_chart⟩
def d_is_person : DG := ⟨(fun K => ga K "is_person"), "is_person", "is_person", defArgs s_is_person, defBody s_is_person, defScope s_is_person⟩
def d_first_fault : DG := ⟨(fun K => ga K "first_fault"), "first_fault", "first_fault", defArgs s_first_fault, defBody s_first_fault, defScope s_first_fault⟩
def d_repeats : DG := ⟨(fun K => ga K "repeats"), "repeats", "repeats", defArgs s_repeats, defBody s_repeats, defScope s_repeats⟩
def d_is_out_of_order : DG := ⟨(fun K => ga K "is_out_of_order"), "is_out_of_order", "is_out_of_order", defArgs s_is_out_of_order, defBody s_is_out_of_order, defScope s_is_out_of_order⟩
def d_arrangement_fault : DG := ⟨(fun K => ga K "arrangement_fault"), "arrangement_fault", "arrangement_fault", defArgs s_arrangement_fault, defBody s_arrangement_fault, defScope s_arrangement_fault⟩
def d_require_arrangement : DG := ⟨(fun K => ga K "require_arrangement"), "require_arrangement", "require_arrangement", defArgs s_require_arrangement, defBody s_require_arrangement, defScope s_require_arrangement⟩
def d_posts_of_people : DG := ⟨(fun K => ga K "posts_of_people"), "posts_of_people", "posts_of_people", defArgs s_posts_of_people, defBody s_posts_of_people, defScope s_posts_of_people⟩
def d_require_holder : DG := ⟨(fun K => ga K "require_holder"), "require_holder", "require_holder", defArgs s_require_holder, defBody s_require_holder, defScope s_require_holder⟩
def d_is_open : DG := ⟨(fun K => ga K "is_open"), "is_open", "is_open", defArgs s_is_open, defBody s_is_open, defScope s_is_open⟩
def d_move_up : DG := ⟨(fun K => ga K "move_up"), "move_up", "move_up", defArgs s_move_up, defBody s_move_up, defScope s_move_up⟩
def d_leave_one : DG := ⟨(fun K => ga K "leave_one"), "leave_one", "leave_one", defArgs s_leave_one, defBody s_leave_one, defScope s_leave_one⟩
def d_join_one : DG := ⟨(fun K => ga K "join_one"), "join_one", "join_one", defArgs s_join_one, defBody s_join_one, defScope s_join_one⟩
def d_open_posts : DG := ⟨(fun K => ga K "open_posts"), "open_posts", "open_posts", defArgs s_open_posts, defBody s_open_posts, defScope s_open_posts⟩
def d_leave : DG := ⟨(fun K => ga K "leave"), "leave", "leave", defArgs s_leave, defBody s_leave, defScope s_leave⟩
def d_join : DG := ⟨(fun K => ga K "join"), "join", "join", defArgs s_join, defBody s_join, defScope s_join⟩
def d_is_step : DG := ⟨(fun K => ga K "is_step"), "is_step", "is_step", defArgs s_is_step, defBody s_is_step, defScope s_is_step⟩
def d_plan_fault : DG := ⟨(fun K => ga K "plan_fault"), "plan_fault", "plan_fault", defArgs s_plan_fault, defBody s_plan_fault, defScope s_plan_fault⟩
def d_step_possible : DG := ⟨(fun K => ga K "step_possible"), "step_possible", "step_possible", defArgs s_step_possible, defBody s_step_possible, defScope s_step_possible⟩
def d_make_step : DG := ⟨(fun K => ga K "make_step"), "make_step", "make_step", defArgs s_make_step, defBody s_make_step, defScope s_make_step⟩
def d_play_on : DG := ⟨(fun K => ga K "play_on"), "play_on", "play_on", defArgs s_play_on, defBody s_play_on, defScope s_play_on⟩
def d_play : DG := ⟨(fun K => ga K "play"), "play", "play", defArgs s_play, defBody s_play, defScope s_play⟩
def d_change_of : DG := ⟨(fun K => ga K "change_of"), "change_of", "change_of", defArgs s_change_of, defBody s_change_of, defScope s_change_of⟩
def d_fewest_changes : DG := ⟨(fun K => ga K "fewest_changes"), "fewest_changes", "fewest_changes", defArgs s_fewest_changes, defBody s_fewest_changes, defScope s_fewest_changes⟩
def d_smallest_open : DG := ⟨(fun K => ga K "smallest_open"), "smallest_open", "smallest_open", defArgs s_smallest_open, defBody s_smallest_open, defScope s_smallest_open⟩
def d_law_cell : DG := ⟨(fun K => ga K "_law_cell"), "_law_cell", "_law_cell", defArgs s_law_cell, defBody s_law_cell, defScope s_law_cell⟩
def d_law_hash : DG := ⟨(fun K => ga K "_law_hash"), "_law_hash", "_law_hash", defArgs s_law_hash, defBody s_law_hash, defScope s_law_hash⟩
def d_law_generator : DG := ⟨(fun K => ga K "_law_generator"), "_law_generator", "_law_generator", defArgs s_law_generator, defBody s_law_generator, defScope s_law_generator⟩
def d_law_random : DG := ⟨(fun K => ga K "_law_random"), "_law_random", "_law_random", defArgs s_law_random, defBody s_law_random, defScope s_law_random⟩
def d_law_shuffled : DG := ⟨(fun K => ga K "_law_shuffled"), "_law_shuffled", "_law_shuffled", defArgs s_law_shuffled, defBody s_law_shuffled, defScope s_law_shuffled⟩
def d_law_random_chart : DG := ⟨(fun K => ga K "_law_random_chart"), "_law_random_chart", "_law_random_chart", defArgs s_law_random_chart, defBody s_law_random_chart, defScope s_law_random_chart⟩
def d_law_open : DG := ⟨(fun K => ga K "_law_open"), "_law_open", "_law_open", defArgs s_law_open, defBody s_law_open, defScope s_law_open⟩
def d_law_people : DG := ⟨(fun K => ga K "_law_people"), "_law_people", "_law_people", defArgs s_law_people, defBody s_law_people, defScope s_law_people⟩
def d_law_random_people : DG := ⟨(fun K => ga K "_law_random_people"), "_law_random_people", "_law_random_people", defArgs s_law_random_people, defBody s_law_random_people, defScope s_law_random_people⟩
def d_law_filled : DG := ⟨(fun K => ga K "_law_filled"), "_law_filled", "_law_filled", defArgs s_law_filled, defBody s_law_filled, defScope s_law_filled⟩
def d_law_random_arrangement : DG := ⟨(fun K => ga K "_law_random_arrangement"), "_law_random_arrangement", "_law_random_arrangement", defArgs s_law_random_arrangement, defBody s_law_random_arrangement, defScope s_law_random_arrangement⟩
def d_law_is_correct : DG := ⟨(fun K => ga K "_law_is_correct"), "_law_is_correct", "_law_is_correct", defArgs s_law_is_correct, defBody s_law_is_correct, defScope s_law_is_correct⟩
def d_law_strict_is_correct : DG := ⟨(fun K => ga K "_law_strict_is_correct"), "_law_strict_is_correct", "_law_strict_is_correct", defArgs s_law_strict_is_correct, defBody s_law_strict_is_correct, defScope s_law_strict_is_correct⟩
def d_law : DG := ⟨(fun K => ga K "law"), "law", "law", defArgs s_law, defBody s_law, defScope s_law⟩
def d_Tree_path : DG := ⟨(fun K => ma K (ga K "Tree") "path"), "path", "Tree.path", defArgs s_Tree_path, defBody s_Tree_path, defScope s_Tree_path⟩
def d_Tree_common : DG := ⟨(fun K => ma K (ga K "Tree") "common"), "common", "Tree.common", defArgs s_Tree_common, defBody s_Tree_common, defScope s_Tree_common⟩
def d_Change_first_after : DG := ⟨(fun K => ma K (ga K "Change") "first_after"), "first_after", "Change.first_after", defArgs s_Change_first_after, defBody s_Change_first_after, defScope s_Change_first_after⟩
def d_Change_staying : DG := ⟨(fun K => ma K (ga K "Change") "staying"), "staying", "Change.staying", defArgs s_Change_staying, defBody s_Change_staying, defScope s_Change_staying⟩
def d_Change_leaving_steps : DG := ⟨(fun K => ma K (ga K "Change") "leaving_steps"), "leaving_steps", "Change.leaving_steps", defArgs s_Change_leaving_steps, defBody s_Change_leaving_steps, defScope s_Change_leaving_steps⟩
def d_Change_joining_steps : DG := ⟨(fun K => ma K (ga K "Change") "joining_steps"), "joining_steps", "Change.joining_steps", defArgs s_Change_joining_steps, defBody s_Change_joining_steps, defScope s_Change_joining_steps⟩
def d_Change_plan : DG := ⟨(fun K => ma K (ga K "Change") "plan"), "plan", "Change.plan", defArgs s_Change_plan, defBody s_Change_plan, defScope s_Change_plan⟩
def d_Trial_enter : DG := ⟨(fun K => ma K (ga K "Trial") "__enter__"), "__enter__", "Trial.__enter__", defArgs s_Trial_enter, defBody s_Trial_enter, defScope s_Trial_enter⟩
def d_Trial_exit : DG := ⟨(fun K => ma K (ga K "Trial") "__exit__"), "__exit__", "Trial.__exit__", defArgs s_Trial_exit, defBody s_Trial_exit, defScope s_Trial_exit⟩
def d_Office_put : DG := ⟨(fun K => ma K (ga K "Office") "put"), "put", "Office.put", defArgs s_Office_put, defBody s_Office_put, defScope s_Office_put⟩
def d_Office_play : DG := ⟨(fun K => ma K (ga K "Office") "play"), "play", "Office.play", defArgs s_Office_play, defBody s_Office_play, defScope s_Office_play⟩
def d_Office_undo : DG := ⟨(fun K => ma K (ga K "Office") "undo"), "undo", "Office.undo", defArgs s_Office_undo, defBody s_Office_undo, defScope s_Office_undo⟩
def d_Office_preview : DG := ⟨(fun K => ma K (ga K "Office") "preview"), "preview", "Office.preview", defArgs s_Office_preview, defBody s_Office_preview, defScope s_Office_preview⟩
def d_Office_rehearse : DG := ⟨(fun K => ma K (ga K "Office") "rehearse"), "rehearse", "Office.rehearse", defArgs s_Office_rehearse, defBody s_Office_rehearse, defScope s_Office_rehearse⟩
def d_Office_log : DG := ⟨(fun K => ma K (ga K "Office") "log"), "log", "Office.log", defArgs s_Office_log, defBody s_Office_log, defScope s_Office_log⟩
def d_Office_len : DG := ⟨(fun K => ma K (ga K "Office") "__len__"), "__len__", "Office.__len__", defArgs s_Office_len, defBody s_Office_len, defScope s_Office_len⟩
def d_Office_contains : DG := ⟨(fun K => ma K (ga K "Office") "__contains__"), "__contains__", "Office.__contains__", defArgs s_Office_contains, defBody s_Office_contains, defScope s_Office_contains⟩
def d_Office_eq : DG := ⟨(fun K => ma K (ga K "Office") "__eq__"), "__eq__", "Office.__eq__", defArgs s_Office_eq, defBody s_Office_eq, defScope s_Office_eq⟩
def d_StrictOffice_admit : DG := ⟨(fun K => ma K (ga K "StrictOffice") "admit"), "admit", "StrictOffice.admit", defArgs s_StrictOffice_admit, defBody s_StrictOffice_admit, defScope s_StrictOffice_admit⟩
def d_Office_leave : DG := ⟨(fun K => ma K (ga K "Office") "leave"), "leave", "Office.leave", defArgs s_Office_leave, defBody s_Office_leave, defScope s_Office_leave⟩
def d_Tree_init : DG := ⟨(fun K => ma K (ga K "Tree") "__init__"), "__init__", "Tree.__init__", defArgs s_Tree_init, defBody s_Tree_init, defScope s_Tree_init⟩
def d_Change_init : DG := ⟨(fun K => ma K (ga K "Change") "__init__"), "__init__", "Change.__init__", defArgs s_Change_init, defBody s_Change_init, defScope s_Change_init⟩
def d_Trial_init : DG := ⟨(fun K => ma K (ga K "Trial") "__init__"), "__init__", "Trial.__init__", defArgs s_Trial_init, defBody s_Trial_init, defScope s_Trial_init⟩
def d_Office_init : DG := ⟨(fun K => ma K (ga K "Office") "__init__"), "__init__", "Office.__init__", defArgs s_Office_init, defBody s_Office_init, defScope s_Office_init⟩
def d_Office_arrangement : DG := ⟨(fun K => recG K (ma K (ga K "Office") "arrangement") "property"), "arrangement", "Office.arrangement", defArgs s_Office_arrangement, defBody s_Office_arrangement, defScope s_Office_arrangement⟩
def d_Office_people : DG := ⟨(fun K => recG K (ma K (ga K "Office") "people") "property"), "people", "Office.people", defArgs s_Office_people, defBody s_Office_people, defScope s_Office_people⟩
def d_Office_head : DG := ⟨(fun K => recG K (ma K (ga K "Office") "head") "property"), "head", "Office.head", defArgs s_Office_head, defBody s_Office_head, defScope s_Office_head⟩
def d_Office_vacant : DG := ⟨(fun K => recG K (ma K (ga K "StrictOffice") "vacant") "classmethod"), "vacant", "Office.vacant", defArgs s_Office_vacant, defBody s_Office_vacant, defScope s_Office_vacant⟩
def fn0 : List DG := [d_is_whole, d_chart_fault, d_require_chart, d_is_person, d_first_fault, d_repeats, d_is_out_of_order, d_arrangement_fault, d_require_arrangement, d_posts_of_people, d_require_holder, d_is_open, d_move_up, d_leave_one, d_join_one, d_open_posts, d_leave, d_join, d_is_step, d_plan_fault, d_step_possible, d_make_step, d_play_on, d_play, d_change_of, d_fewest_changes, d_smallest_open, d_law_cell, d_law_hash, d_law_generator]
def fn1 : List DG := [d_law_random, d_law_shuffled, d_law_random_chart, d_law_open, d_law_people, d_law_random_people, d_law_filled, d_law_random_arrangement, d_law_is_correct, d_law_strict_is_correct, d_law, d_Tree_path, d_Tree_common, d_Change_first_after, d_Change_staying, d_Change_leaving_steps, d_Change_joining_steps, d_Change_plan, d_Trial_enter, d_Trial_exit, d_Office_put, d_Office_play, d_Office_undo, d_Office_preview, d_Office_rehearse, d_Office_log, d_Office_len, d_Office_contains, d_Office_eq, d_StrictOffice_admit]
def fn2 : List DG := [d_Office_leave, d_Tree_init, d_Change_init, d_Trial_init, d_Office_init, d_Office_arrangement, d_Office_people, d_Office_head, d_Office_vacant]
def fn : List DG := fn0 ++ fn1 ++ fn2
def f_b_isinstance (K : PySem.W.Frag) : Bool := eqO (PySem.W.nsIn K mainGlobals "isinstance") (some none)
def f_b_len (K : PySem.W.Frag) : Bool := eqO (PySem.W.nsIn K mainGlobals "len") (some none)
def f_b_enumerate (K : PySem.W.Frag) : Bool := eqO (PySem.W.nsIn K mainGlobals "enumerate") (some none)
def f_b_min (K : PySem.W.Frag) : Bool := eqO (PySem.W.nsIn K mainGlobals "min") (some none)
def f_b_max (K : PySem.W.Frag) : Bool := eqO (PySem.W.nsIn K mainGlobals "max") (some none)
def f_b_sorted (K : PySem.W.Frag) : Bool := eqO (PySem.W.nsIn K mainGlobals "sorted") (some none)
def f_b_list (K : PySem.W.Frag) : Bool := eqO (PySem.W.nsIn K mainGlobals "list") (some none)
def f_b_tuple (K : PySem.W.Frag) : Bool := eqO (PySem.W.nsIn K mainGlobals "tuple") (some none)
def f_b_range (K : PySem.W.Frag) : Bool := eqO (PySem.W.nsIn K mainGlobals "range") (some none)
def f_b_zip (K : PySem.W.Frag) : Bool := eqO (PySem.W.nsIn K mainGlobals "zip") (some none)
def f_b_int (K : PySem.W.Frag) : Bool := eqO (PySem.W.nsIn K mainGlobals "int") (some none)
def f_b_bool (K : PySem.W.Frag) : Bool := eqO (PySem.W.nsIn K mainGlobals "bool") (some none)
def f_g_is_whole (K : PySem.W.Frag) : Bool := eqO (PySem.W.nsIn K mainGlobals "is_whole") (some (some (.ref (ga K "is_whole"))))
def f_g_chart_fault (K : PySem.W.Frag) : Bool := eqO (PySem.W.nsIn K mainGlobals "chart_fault") (some (some (.ref (ga K "chart_fault"))))
def f_g_require_chart (K : PySem.W.Frag) : Bool := eqO (PySem.W.nsIn K mainGlobals "require_chart") (some (some (.ref (ga K "require_chart"))))
def f_g_is_person (K : PySem.W.Frag) : Bool := eqO (PySem.W.nsIn K mainGlobals "is_person") (some (some (.ref (ga K "is_person"))))
def f_g_first_fault (K : PySem.W.Frag) : Bool := eqO (PySem.W.nsIn K mainGlobals "first_fault") (some (some (.ref (ga K "first_fault"))))
def f_g_repeats (K : PySem.W.Frag) : Bool := eqO (PySem.W.nsIn K mainGlobals "repeats") (some (some (.ref (ga K "repeats"))))
def f_g_is_out_of_order (K : PySem.W.Frag) : Bool := eqO (PySem.W.nsIn K mainGlobals "is_out_of_order") (some (some (.ref (ga K "is_out_of_order"))))
def f_g_arrangement_fault (K : PySem.W.Frag) : Bool := eqO (PySem.W.nsIn K mainGlobals "arrangement_fault") (some (some (.ref (ga K "arrangement_fault"))))
def f_g_require_arrangement (K : PySem.W.Frag) : Bool := eqO (PySem.W.nsIn K mainGlobals "require_arrangement") (some (some (.ref (ga K "require_arrangement"))))
def f_g_posts_of_people (K : PySem.W.Frag) : Bool := eqO (PySem.W.nsIn K mainGlobals "posts_of_people") (some (some (.ref (ga K "posts_of_people"))))
def f_g_require_holder (K : PySem.W.Frag) : Bool := eqO (PySem.W.nsIn K mainGlobals "require_holder") (some (some (.ref (ga K "require_holder"))))
def f_g_is_open (K : PySem.W.Frag) : Bool := eqO (PySem.W.nsIn K mainGlobals "is_open") (some (some (.ref (ga K "is_open"))))
def f_g_move_up (K : PySem.W.Frag) : Bool := eqO (PySem.W.nsIn K mainGlobals "move_up") (some (some (.ref (ga K "move_up"))))
def f_g_leave_one (K : PySem.W.Frag) : Bool := eqO (PySem.W.nsIn K mainGlobals "leave_one") (some (some (.ref (ga K "leave_one"))))
def f_g_join_one (K : PySem.W.Frag) : Bool := eqO (PySem.W.nsIn K mainGlobals "join_one") (some (some (.ref (ga K "join_one"))))
def f_g_open_posts (K : PySem.W.Frag) : Bool := eqO (PySem.W.nsIn K mainGlobals "open_posts") (some (some (.ref (ga K "open_posts"))))
def f_g_leave (K : PySem.W.Frag) : Bool := eqO (PySem.W.nsIn K mainGlobals "leave") (some (some (.ref (ga K "leave"))))
def f_g_join (K : PySem.W.Frag) : Bool := eqO (PySem.W.nsIn K mainGlobals "join") (some (some (.ref (ga K "join"))))
def f_g_is_step (K : PySem.W.Frag) : Bool := eqO (PySem.W.nsIn K mainGlobals "is_step") (some (some (.ref (ga K "is_step"))))
def f_g_plan_fault (K : PySem.W.Frag) : Bool := eqO (PySem.W.nsIn K mainGlobals "plan_fault") (some (some (.ref (ga K "plan_fault"))))
def f_g_step_possible (K : PySem.W.Frag) : Bool := eqO (PySem.W.nsIn K mainGlobals "step_possible") (some (some (.ref (ga K "step_possible"))))
def f_g_make_step (K : PySem.W.Frag) : Bool := eqO (PySem.W.nsIn K mainGlobals "make_step") (some (some (.ref (ga K "make_step"))))
def f_g_play_on (K : PySem.W.Frag) : Bool := eqO (PySem.W.nsIn K mainGlobals "play_on") (some (some (.ref (ga K "play_on"))))
def f_g_play (K : PySem.W.Frag) : Bool := eqO (PySem.W.nsIn K mainGlobals "play") (some (some (.ref (ga K "play"))))
def f_g_change_of (K : PySem.W.Frag) : Bool := eqO (PySem.W.nsIn K mainGlobals "change_of") (some (some (.ref (ga K "change_of"))))
def f_g_fewest_changes (K : PySem.W.Frag) : Bool := eqO (PySem.W.nsIn K mainGlobals "fewest_changes") (some (some (.ref (ga K "fewest_changes"))))
def f_g_smallest_open (K : PySem.W.Frag) : Bool := eqO (PySem.W.nsIn K mainGlobals "smallest_open") (some (some (.ref (ga K "smallest_open"))))
def f_g_law_cell (K : PySem.W.Frag) : Bool := eqO (PySem.W.nsIn K mainGlobals "_law_cell") (some (some (.ref (ga K "_law_cell"))))
def f_g_law_hash (K : PySem.W.Frag) : Bool := eqO (PySem.W.nsIn K mainGlobals "_law_hash") (some (some (.ref (ga K "_law_hash"))))
def f_g_law_generator (K : PySem.W.Frag) : Bool := eqO (PySem.W.nsIn K mainGlobals "_law_generator") (some (some (.ref (ga K "_law_generator"))))
def f_g_law_random (K : PySem.W.Frag) : Bool := eqO (PySem.W.nsIn K mainGlobals "_law_random") (some (some (.ref (ga K "_law_random"))))
def f_g_law_shuffled (K : PySem.W.Frag) : Bool := eqO (PySem.W.nsIn K mainGlobals "_law_shuffled") (some (some (.ref (ga K "_law_shuffled"))))
def f_g_law_random_chart (K : PySem.W.Frag) : Bool := eqO (PySem.W.nsIn K mainGlobals "_law_random_chart") (some (some (.ref (ga K "_law_random_chart"))))
def f_g_law_open (K : PySem.W.Frag) : Bool := eqO (PySem.W.nsIn K mainGlobals "_law_open") (some (some (.ref (ga K "_law_open"))))
def f_g_law_people (K : PySem.W.Frag) : Bool := eqO (PySem.W.nsIn K mainGlobals "_law_people") (some (some (.ref (ga K "_law_people"))))
def f_g_law_random_people (K : PySem.W.Frag) : Bool := eqO (PySem.W.nsIn K mainGlobals "_law_random_people") (some (some (.ref (ga K "_law_random_people"))))
def f_g_law_filled (K : PySem.W.Frag) : Bool := eqO (PySem.W.nsIn K mainGlobals "_law_filled") (some (some (.ref (ga K "_law_filled"))))
def f_g_law_random_arrangement (K : PySem.W.Frag) : Bool := eqO (PySem.W.nsIn K mainGlobals "_law_random_arrangement") (some (some (.ref (ga K "_law_random_arrangement"))))
def f_g_law_is_correct (K : PySem.W.Frag) : Bool := eqO (PySem.W.nsIn K mainGlobals "_law_is_correct") (some (some (.ref (ga K "_law_is_correct"))))
def f_g_law_strict_is_correct (K : PySem.W.Frag) : Bool := eqO (PySem.W.nsIn K mainGlobals "_law_strict_is_correct") (some (some (.ref (ga K "_law_strict_is_correct"))))
def f_g_law (K : PySem.W.Frag) : Bool := eqO (PySem.W.nsIn K mainGlobals "law") (some (some (.ref (ga K "law"))))
def f_g_Tree (K : PySem.W.Frag) : Bool := eqO (PySem.W.nsIn K mainGlobals "Tree") (some (some (.ref (ga K "Tree"))))
def f_g_Change (K : PySem.W.Frag) : Bool := eqO (PySem.W.nsIn K mainGlobals "Change") (some (some (.ref (ga K "Change"))))
def f_g_Trial (K : PySem.W.Frag) : Bool := eqO (PySem.W.nsIn K mainGlobals "Trial") (some (some (.ref (ga K "Trial"))))
def f_g_Office (K : PySem.W.Frag) : Bool := eqO (PySem.W.nsIn K mainGlobals "Office") (some (some (.ref (ga K "Office"))))
def f_g_StrictOffice (K : PySem.W.Frag) : Bool := eqO (PySem.W.nsIn K mainGlobals "StrictOffice") (some (some (.ref (ga K "StrictOffice"))))
def f_a_leave (K : PySem.W.Frag) : Bool := eqO (PySem.W.nsIn K mainGlobals "leave_arrangements") (some (some (.ref (ga K "leave"))))
def f_a_play (K : PySem.W.Frag) : Bool := eqO (PySem.W.nsIn K mainGlobals "play_changes") (some (some (.ref (ga K "play"))))
def f_c_Tree (K : PySem.W.Frag) : Bool := (Fa.cls "Tree").ok K
def f_c_Change (K : PySem.W.Frag) : Bool := (Fa.cls "Change").ok K
def f_c_Trial (K : PySem.W.Frag) : Bool := (Fa.cls "Trial").ok K
def f_c_Office (K : PySem.W.Frag) : Bool := (Fa.cls "Office").ok K
def f_c_StrictOffice (K : PySem.W.Frag) : Bool := (Fa.cls "StrictOffice").ok K
def f_n_T_above (K : PySem.W.Frag) : Bool := (Fa.noat "Tree" "above").ok K
def f_n_T_below (K : PySem.W.Frag) : Bool := (Fa.noat "Tree" "below").ok K
def f_n_R_office (K : PySem.W.Frag) : Bool := (Fa.noat "Trial" "office").ok K
def f_n_R_now (K : PySem.W.Frag) : Bool := (Fa.noat "Trial" "now").ok K
def f_n_R_past (K : PySem.W.Frag) : Bool := (Fa.noat "Trial" "past").ok K
def f_n_R_done (K : PySem.W.Frag) : Bool := (Fa.noat "Trial" "done").ok K
def f_n_O_above (K : PySem.W.Frag) : Bool := (Fa.noat "Office" "above").ok K
def f_n_O_now (K : PySem.W.Frag) : Bool := (Fa.noat "Office" "now").ok K
def f_n_O_past (K : PySem.W.Frag) : Bool := (Fa.noat "Office" "past").ok K
def f_n_O_done (K : PySem.W.Frag) : Bool := (Fa.noat "Office" "done").ok K
def f_n_S_above (K : PySem.W.Frag) : Bool := (Fa.noat "StrictOffice" "above").ok K
def f_n_S_now (K : PySem.W.Frag) : Bool := (Fa.noat "StrictOffice" "now").ok K
def f_n_S_past (K : PySem.W.Frag) : Bool := (Fa.noat "StrictOffice" "past").ok K
def f_n_S_done (K : PySem.W.Frag) : Bool := (Fa.noat "StrictOffice" "done").ok K
def f_n_C_tree (K : PySem.W.Frag) : Bool := (Fa.noat "Change" "tree").ok K
def f_n_C_before (K : PySem.W.Frag) : Bool := (Fa.noat "Change" "before").ok K
def f_n_C_after (K : PySem.W.Frag) : Bool := (Fa.noat "Change" "after").ok K
def f_n_C_starts (K : PySem.W.Frag) : Bool := (Fa.noat "Change" "starts").ok K
def f_n_C_ends (K : PySem.W.Frag) : Bool := (Fa.noat "Change" "ends").ok K
def f_n_C_reaching (K : PySem.W.Frag) : Bool := (Fa.noat "Change" "reaching").ok K
def f_m_Tree_path (K : PySem.W.Frag) : Bool := (Fa.meth "Tree" "path").ok K
def f_m_Tree_common (K : PySem.W.Frag) : Bool := (Fa.meth "Tree" "common").ok K
def f_m_Change_first_after (K : PySem.W.Frag) : Bool := (Fa.meth "Change" "first_after").ok K
def f_m_Change_staying (K : PySem.W.Frag) : Bool := (Fa.meth "Change" "staying").ok K
def f_m_Change_leaving_steps (K : PySem.W.Frag) : Bool := (Fa.meth "Change" "leaving_steps").ok K
def f_m_Change_joining_steps (K : PySem.W.Frag) : Bool := (Fa.meth "Change" "joining_steps").ok K
def f_m_Change_plan (K : PySem.W.Frag) : Bool := (Fa.meth "Change" "plan").ok K
def f_m_Trial_enter (K : PySem.W.Frag) : Bool := (Fa.meth "Trial" "__enter__").ok K
def f_m_Trial_exit (K : PySem.W.Frag) : Bool := (Fa.meth "Trial" "__exit__").ok K
def f_m_Office_put (K : PySem.W.Frag) : Bool := (Fa.meth "Office" "put").ok K
def f_ms_Office_put (K : PySem.W.Frag) : Bool := eqO (PySem.W.findIn K (.ref (ga K "StrictOffice")) "put") (some (some (.ref (ma K (ga K "Office") "put"))))
def f_m_Office_play (K : PySem.W.Frag) : Bool := (Fa.meth "Office" "play").ok K
def f_m_Office_undo (K : PySem.W.Frag) : Bool := (Fa.meth "Office" "undo").ok K
def f_m_Office_preview (K : PySem.W.Frag) : Bool := (Fa.meth "Office" "preview").ok K
def f_m_Office_rehearse (K : PySem.W.Frag) : Bool := (Fa.meth "Office" "rehearse").ok K
def f_m_Office_log (K : PySem.W.Frag) : Bool := (Fa.meth "Office" "log").ok K
def f_m_Office_len (K : PySem.W.Frag) : Bool := (Fa.meth "Office" "__len__").ok K
def f_ms_Office_len (K : PySem.W.Frag) : Bool := eqO (PySem.W.findIn K (.ref (ga K "StrictOffice")) "__len__") (some (some (.ref (ma K (ga K "Office") "__len__"))))
def f_m_Office_contains (K : PySem.W.Frag) : Bool := (Fa.meth "Office" "__contains__").ok K
def f_ms_Office_contains (K : PySem.W.Frag) : Bool := eqO (PySem.W.findIn K (.ref (ga K "StrictOffice")) "__contains__") (some (some (.ref (ma K (ga K "Office") "__contains__"))))
def f_m_Office_eq (K : PySem.W.Frag) : Bool := (Fa.meth "Office" "__eq__").ok K
def f_ms_Office_eq (K : PySem.W.Frag) : Bool := eqO (PySem.W.findIn K (.ref (ga K "StrictOffice")) "__eq__") (some (some (.ref (ma K (ga K "Office") "__eq__"))))
def f_m_StrictOffice_admit (K : PySem.W.Frag) : Bool := (Fa.meth "StrictOffice" "admit").ok K
def f_m_Office_leave (K : PySem.W.Frag) : Bool := (Fa.meth "Office" "leave").ok K
def f_k_Tree (K : PySem.W.Frag) : Bool := (Fa.mkr "Tree").ok K
def f_k_Change (K : PySem.W.Frag) : Bool := (Fa.mkr "Change").ok K
def f_k_Trial (K : PySem.W.Frag) : Bool := (Fa.mkr "Trial").ok K
def f_k_Office (K : PySem.W.Frag) : Bool := (Fa.mkr "Office").ok K
def f_k_StrictOffice (K : PySem.W.Frag) : Bool := (Fa.mkr "StrictOffice").ok K
def f_init_S (K : PySem.W.Frag) : Bool := decide (ma K (ga K "StrictOffice") "__init__" = ma K (ga K "Office") "__init__")
def f_pf_arrangement (K : PySem.W.Frag) : Bool := eqO (PySem.W.findIn K (.ref (ga K "Office")) "arrangement") (some (some (.ref (ma K (ga K "Office") "arrangement"))))
def f_pg_arrangement (K : PySem.W.Frag) : Bool := eqO (PySem.W.specialIn K (.ref (ma K (ga K "Office") "arrangement")) "__get__") (some (some (.builtin "property.__get__")))
def f_pt_arrangement (K : PySem.W.Frag) : Bool := decide (PySem.W.takesIn K (.ref (ma K (ga K "Office") "arrangement")) = some true)
def f_pr_arrangement (K : PySem.W.Frag) : Bool := recB K (ma K (ga K "Office") "arrangement") "property"
def f_ps_arrangement (K : PySem.W.Frag) : Bool := eqO (PySem.W.findIn K (.ref (ga K "StrictOffice")) "arrangement") (some (some (.ref (ma K (ga K "Office") "arrangement"))))
def f_pf_people (K : PySem.W.Frag) : Bool := eqO (PySem.W.findIn K (.ref (ga K "Office")) "people") (some (some (.ref (ma K (ga K "Office") "people"))))
def f_pg_people (K : PySem.W.Frag) : Bool := eqO (PySem.W.specialIn K (.ref (ma K (ga K "Office") "people")) "__get__") (some (some (.builtin "property.__get__")))
def f_pt_people (K : PySem.W.Frag) : Bool := decide (PySem.W.takesIn K (.ref (ma K (ga K "Office") "people")) = some true)
def f_pr_people (K : PySem.W.Frag) : Bool := recB K (ma K (ga K "Office") "people") "property"
def f_ps_people (K : PySem.W.Frag) : Bool := eqO (PySem.W.findIn K (.ref (ga K "StrictOffice")) "people") (some (some (.ref (ma K (ga K "Office") "people"))))
def f_pf_head (K : PySem.W.Frag) : Bool := eqO (PySem.W.findIn K (.ref (ga K "Office")) "head") (some (some (.ref (ma K (ga K "Office") "head"))))
def f_pg_head (K : PySem.W.Frag) : Bool := eqO (PySem.W.specialIn K (.ref (ma K (ga K "Office") "head")) "__get__") (some (some (.builtin "property.__get__")))
def f_pt_head (K : PySem.W.Frag) : Bool := decide (PySem.W.takesIn K (.ref (ma K (ga K "Office") "head")) = some true)
def f_pr_head (K : PySem.W.Frag) : Bool := recB K (ma K (ga K "Office") "head") "property"
def f_bl_g (K : PySem.W.Frag) : Bool := eqO (PySem.W.specialIn K (.ref (ma K (ga K "Office") "leave")) "__get__") (some (some (.builtin "function.__get__")))
def f_bl_t (K : PySem.W.Frag) : Bool := decide (PySem.W.takesIn K (.ref (ma K (ga K "Office") "leave")) = some false)
def f_bl_f (K : PySem.W.Frag) : Bool := PySem.W.fnIn K (ma K (ga K "Office") "leave")
def f_v_rd (K : PySem.W.Frag) : Bool := PySem.W.readsIn K (ga K "StrictOffice") (.type "type")
def f_v_ga (K : PySem.W.Frag) : Bool := eqO (PySem.W.specialIn K (.ref (ga K "StrictOffice")) "__getattribute__") (some (some (.builtin "type.__getattribute__")))
def f_v_cm (K : PySem.W.Frag) : Bool := cmB K (ga K "StrictOffice") (.type "type") "vacant"
def f_v_rc (K : PySem.W.Frag) : Bool := recB K (ma K (ga K "StrictOffice") "vacant") "classmethod"
def f_v_fi (K : PySem.W.Frag) : Bool := PySem.W.fnIn K (recG K (ma K (ga K "StrictOffice") "vacant") "classmethod")
def f_o_ne (K : PySem.W.Frag) : Bool := eqO (PySem.W.findIn K (.ref (ga K "Office")) "__ne__") (some (some (.builtin "object.__ne__")))
def f_o_mro (K : PySem.W.Frag) : Bool := decide (PySem.W.mroIn K (ga K "Office") (.type "object") = some true)
def f_o_nf (K : PySem.W.Frag) : Bool := PySem.W.notFirst K (ga K "Office") (.ref (ga K "Office"))
def f_s_nf (K : PySem.W.Frag) : Bool := PySem.W.notFirst K (ga K "StrictOffice") (.ref (ga K "Office"))
def f_o_cl (K : PySem.W.Frag) : Bool := eqO (PySem.W.findIn K (.ref (ga K "Office")) "__class__") (some (some (.builtin "object.__class__")))
def f_o_gs (K : PySem.W.Frag) : Bool := eqO (PySem.W.specialIn K (.builtin "object.__class__") "__get__") (some (some (.builtin "getset_descriptor.__get__")))
def f_o_tk (K : PySem.W.Frag) : Bool := decide (PySem.W.takesIn K (.builtin "object.__class__") = some true)
def f_o_kit (K : PySem.W.Frag) : Bool := decide (PySem.W.kitOne K (.ref (ga K "Office")) (.ref (ga K "Office")) = some true)
def ex0 : List (PySem.W.Frag → Bool) := [f_b_isinstance, f_b_len, f_b_enumerate, f_b_min, f_b_max, f_b_sorted, f_b_list, f_b_tuple, f_b_range, f_b_zip, f_b_int, f_b_bool, f_g_is_whole, f_g_chart_fault, f_g_require_chart, f_g_is_person, f_g_first_fault, f_g_repeats, f_g_is_out_of_order, f_g_arrangement_fault, f_g_require_arrangement, f_g_posts_of_people, f_g_require_holder, f_g_is_open, f_g_move_up, f_g_leave_one, f_g_join_one, f_g_open_posts, f_g_leave, f_g_join]
def ex1 : List (PySem.W.Frag → Bool) := [f_g_is_step, f_g_plan_fault, f_g_step_possible, f_g_make_step, f_g_play_on, f_g_play, f_g_change_of, f_g_fewest_changes, f_g_smallest_open, f_g_law_cell, f_g_law_hash, f_g_law_generator, f_g_law_random, f_g_law_shuffled, f_g_law_random_chart, f_g_law_open, f_g_law_people, f_g_law_random_people, f_g_law_filled, f_g_law_random_arrangement, f_g_law_is_correct, f_g_law_strict_is_correct, f_g_law, f_g_Tree, f_g_Change, f_g_Trial, f_g_Office, f_g_StrictOffice, f_a_leave, f_a_play]
def ex2 : List (PySem.W.Frag → Bool) := [f_c_Tree, f_c_Change, f_c_Trial, f_c_Office, f_c_StrictOffice, f_n_T_above, f_n_T_below, f_n_R_office, f_n_R_now, f_n_R_past, f_n_R_done, f_n_O_above, f_n_O_now, f_n_O_past, f_n_O_done, f_n_S_above, f_n_S_now, f_n_S_past, f_n_S_done, f_n_C_tree, f_n_C_before, f_n_C_after, f_n_C_starts, f_n_C_ends, f_n_C_reaching, f_m_Tree_path, f_m_Tree_common, f_m_Change_first_after, f_m_Change_staying, f_m_Change_leaving_steps]
def ex3 : List (PySem.W.Frag → Bool) := [f_m_Change_joining_steps, f_m_Change_plan, f_m_Trial_enter, f_m_Trial_exit, f_m_Office_put, f_ms_Office_put, f_m_Office_play, f_m_Office_undo, f_m_Office_preview, f_m_Office_rehearse, f_m_Office_log, f_m_Office_len, f_ms_Office_len, f_m_Office_contains, f_ms_Office_contains, f_m_Office_eq, f_ms_Office_eq, f_m_StrictOffice_admit, f_m_Office_leave, f_k_Tree, f_k_Change, f_k_Trial, f_k_Office, f_k_StrictOffice, f_init_S, f_pf_arrangement, f_pg_arrangement, f_pt_arrangement, f_pr_arrangement, f_ps_arrangement]
def ex4 : List (PySem.W.Frag → Bool) := [f_pf_people, f_pg_people, f_pt_people, f_pr_people, f_ps_people, f_pf_head, f_pg_head, f_pt_head, f_pr_head, f_bl_g, f_bl_t, f_bl_f, f_v_rd, f_v_ga, f_v_cm, f_v_rc, f_v_fi, f_o_ne, f_o_mro, f_o_nf, f_s_nf, f_o_cl, f_o_gs, f_o_tk, f_o_kit]
def ex : List (PySem.W.Frag → Bool) := ex0 ++ ex1 ++ ex2 ++ ex3 ++ ex4
def tops0 : List Str := ["Tree", "Change", "Trial", "Office", "StrictOffice", "is_whole", "chart_fault", "require_chart", "is_person", "first_fault", "repeats", "is_out_of_order", "arrangement_fault", "require_arrangement", "posts_of_people", "require_holder", "is_open", "move_up", "leave_one", "join_one", "open_posts", "leave", "join", "is_step", "plan_fault", "step_possible", "make_step", "play_on", "play", "change_of"]
def tops1 : List Str := ["fewest_changes", "smallest_open", "_law_cell", "_law_hash", "_law_generator", "_law_random", "_law_shuffled", "_law_random_chart", "_law_open", "_law_people", "_law_random_people", "_law_filled", "_law_random_arrangement", "_law_is_correct", "_law_strict_is_correct", "law"]
def tops : List Str := tops0 ++ tops1
abbrev ad (K : PySem.W.Frag) : Ad := ⟨ga K "Tree", ga K "Change", ga K "Trial", ga K "Office", ga K "StrictOffice"⟩
theorem fx {K : PySem.W.Frag} {h : Heap} {mg : Str → Option Value} (X : K.In h) (G : h.Ns mainGlobals mg) (c : obsM ex fn K = valM fn) : Fx K mg (ad K) := by
  have off : ∀ C, IsO (ad K) C → C = ga K "Office" ∨ C = ga K "StrictOffice" := fun C h => h
  constructor
  case b_isinstance => exact PySem.W.mg_none_of X G (eqO_ok (saysM_fact c 0 (f := f_b_isinstance) rfl))
  case b_len => exact PySem.W.mg_none_of X G (eqO_ok (saysM_fact c 1 (f := f_b_len) rfl))
  case b_enumerate => exact PySem.W.mg_none_of X G (eqO_ok (saysM_fact c 2 (f := f_b_enumerate) rfl))
  case b_min => exact PySem.W.mg_none_of X G (eqO_ok (saysM_fact c 3 (f := f_b_min) rfl))
  case b_max => exact PySem.W.mg_none_of X G (eqO_ok (saysM_fact c 4 (f := f_b_max) rfl))
  case b_sorted => exact PySem.W.mg_none_of X G (eqO_ok (saysM_fact c 5 (f := f_b_sorted) rfl))
  case b_list => exact PySem.W.mg_none_of X G (eqO_ok (saysM_fact c 6 (f := f_b_list) rfl))
  case b_tuple => exact PySem.W.mg_none_of X G (eqO_ok (saysM_fact c 7 (f := f_b_tuple) rfl))
  case b_range => exact PySem.W.mg_none_of X G (eqO_ok (saysM_fact c 8 (f := f_b_range) rfl))
  case b_zip => exact PySem.W.mg_none_of X G (eqO_ok (saysM_fact c 9 (f := f_b_zip) rfl))
  case b_int => exact PySem.W.mg_none_of X G (eqO_ok (saysM_fact c 10 (f := f_b_int) rfl))
  case b_bool => exact PySem.W.mg_none_of X G (eqO_ok (saysM_fact c 11 (f := f_b_bool) rfl))
  case d_is_whole => obtain ⟨fd, F⟩ := (saysM_def c 0 (d := d_is_whole) rfl); exact ⟨ga K "is_whole", fd, PySem.W.mg_of X G (eqO_ok (saysM_fact c 12 (f := f_g_is_whole) rfl)), F⟩
  case d_chart_fault => obtain ⟨fd, F⟩ := (saysM_def c 1 (d := d_chart_fault) rfl); exact ⟨ga K "chart_fault", fd, PySem.W.mg_of X G (eqO_ok (saysM_fact c 13 (f := f_g_chart_fault) rfl)), F⟩
  case d_require_chart => obtain ⟨fd, F⟩ := (saysM_def c 2 (d := d_require_chart) rfl); exact ⟨ga K "require_chart", fd, PySem.W.mg_of X G (eqO_ok (saysM_fact c 14 (f := f_g_require_chart) rfl)), F⟩
  case d_is_person => obtain ⟨fd, F⟩ := (saysM_def c 3 (d := d_is_person) rfl); exact ⟨ga K "is_person", fd, PySem.W.mg_of X G (eqO_ok (saysM_fact c 15 (f := f_g_is_person) rfl)), F⟩
  case d_first_fault => obtain ⟨fd, F⟩ := (saysM_def c 4 (d := d_first_fault) rfl); exact ⟨ga K "first_fault", fd, PySem.W.mg_of X G (eqO_ok (saysM_fact c 16 (f := f_g_first_fault) rfl)), F⟩
  case d_repeats => obtain ⟨fd, F⟩ := (saysM_def c 5 (d := d_repeats) rfl); exact ⟨ga K "repeats", fd, PySem.W.mg_of X G (eqO_ok (saysM_fact c 17 (f := f_g_repeats) rfl)), F⟩
  case d_is_out_of_order => obtain ⟨fd, F⟩ := (saysM_def c 6 (d := d_is_out_of_order) rfl); exact ⟨ga K "is_out_of_order", fd, PySem.W.mg_of X G (eqO_ok (saysM_fact c 18 (f := f_g_is_out_of_order) rfl)), F⟩
  case d_arrangement_fault => obtain ⟨fd, F⟩ := (saysM_def c 7 (d := d_arrangement_fault) rfl); exact ⟨ga K "arrangement_fault", fd, PySem.W.mg_of X G (eqO_ok (saysM_fact c 19 (f := f_g_arrangement_fault) rfl)), F⟩
  case d_require_arrangement => obtain ⟨fd, F⟩ := (saysM_def c 8 (d := d_require_arrangement) rfl); exact ⟨ga K "require_arrangement", fd, PySem.W.mg_of X G (eqO_ok (saysM_fact c 20 (f := f_g_require_arrangement) rfl)), F⟩
  case d_posts_of_people => obtain ⟨fd, F⟩ := (saysM_def c 9 (d := d_posts_of_people) rfl); exact ⟨ga K "posts_of_people", fd, PySem.W.mg_of X G (eqO_ok (saysM_fact c 21 (f := f_g_posts_of_people) rfl)), F⟩
  case d_require_holder => obtain ⟨fd, F⟩ := (saysM_def c 10 (d := d_require_holder) rfl); exact ⟨ga K "require_holder", fd, PySem.W.mg_of X G (eqO_ok (saysM_fact c 22 (f := f_g_require_holder) rfl)), F⟩
  case d_is_open => obtain ⟨fd, F⟩ := (saysM_def c 11 (d := d_is_open) rfl); exact ⟨ga K "is_open", fd, PySem.W.mg_of X G (eqO_ok (saysM_fact c 23 (f := f_g_is_open) rfl)), F⟩
  case d_move_up => obtain ⟨fd, F⟩ := (saysM_def c 12 (d := d_move_up) rfl); exact ⟨ga K "move_up", fd, PySem.W.mg_of X G (eqO_ok (saysM_fact c 24 (f := f_g_move_up) rfl)), F⟩
  case d_leave_one => obtain ⟨fd, F⟩ := (saysM_def c 13 (d := d_leave_one) rfl); exact ⟨ga K "leave_one", fd, PySem.W.mg_of X G (eqO_ok (saysM_fact c 25 (f := f_g_leave_one) rfl)), F⟩
  case d_join_one => obtain ⟨fd, F⟩ := (saysM_def c 14 (d := d_join_one) rfl); exact ⟨ga K "join_one", fd, PySem.W.mg_of X G (eqO_ok (saysM_fact c 26 (f := f_g_join_one) rfl)), F⟩
  case d_open_posts => obtain ⟨fd, F⟩ := (saysM_def c 15 (d := d_open_posts) rfl); exact ⟨ga K "open_posts", fd, PySem.W.mg_of X G (eqO_ok (saysM_fact c 27 (f := f_g_open_posts) rfl)), F⟩
  case d_leave => obtain ⟨fd, F⟩ := (saysM_def c 16 (d := d_leave) rfl); exact ⟨ga K "leave", fd, PySem.W.mg_of X G (eqO_ok (saysM_fact c 28 (f := f_g_leave) rfl)), F⟩
  case d_join => obtain ⟨fd, F⟩ := (saysM_def c 17 (d := d_join) rfl); exact ⟨ga K "join", fd, PySem.W.mg_of X G (eqO_ok (saysM_fact c 29 (f := f_g_join) rfl)), F⟩
  case d_is_step => obtain ⟨fd, F⟩ := (saysM_def c 18 (d := d_is_step) rfl); exact ⟨ga K "is_step", fd, PySem.W.mg_of X G (eqO_ok (saysM_fact c 30 (f := f_g_is_step) rfl)), F⟩
  case d_plan_fault => obtain ⟨fd, F⟩ := (saysM_def c 19 (d := d_plan_fault) rfl); exact ⟨ga K "plan_fault", fd, PySem.W.mg_of X G (eqO_ok (saysM_fact c 31 (f := f_g_plan_fault) rfl)), F⟩
  case d_step_possible => obtain ⟨fd, F⟩ := (saysM_def c 20 (d := d_step_possible) rfl); exact ⟨ga K "step_possible", fd, PySem.W.mg_of X G (eqO_ok (saysM_fact c 32 (f := f_g_step_possible) rfl)), F⟩
  case d_make_step => obtain ⟨fd, F⟩ := (saysM_def c 21 (d := d_make_step) rfl); exact ⟨ga K "make_step", fd, PySem.W.mg_of X G (eqO_ok (saysM_fact c 33 (f := f_g_make_step) rfl)), F⟩
  case d_play_on => obtain ⟨fd, F⟩ := (saysM_def c 22 (d := d_play_on) rfl); exact ⟨ga K "play_on", fd, PySem.W.mg_of X G (eqO_ok (saysM_fact c 34 (f := f_g_play_on) rfl)), F⟩
  case d_play => obtain ⟨fd, F⟩ := (saysM_def c 23 (d := d_play) rfl); exact ⟨ga K "play", fd, PySem.W.mg_of X G (eqO_ok (saysM_fact c 35 (f := f_g_play) rfl)), F⟩
  case d_change_of => obtain ⟨fd, F⟩ := (saysM_def c 24 (d := d_change_of) rfl); exact ⟨ga K "change_of", fd, PySem.W.mg_of X G (eqO_ok (saysM_fact c 36 (f := f_g_change_of) rfl)), F⟩
  case d_fewest_changes => obtain ⟨fd, F⟩ := (saysM_def c 25 (d := d_fewest_changes) rfl); exact ⟨ga K "fewest_changes", fd, PySem.W.mg_of X G (eqO_ok (saysM_fact c 37 (f := f_g_fewest_changes) rfl)), F⟩
  case d_smallest_open => obtain ⟨fd, F⟩ := (saysM_def c 26 (d := d_smallest_open) rfl); exact ⟨ga K "smallest_open", fd, PySem.W.mg_of X G (eqO_ok (saysM_fact c 38 (f := f_g_smallest_open) rfl)), F⟩
  case d_law_cell => obtain ⟨fd, F⟩ := (saysM_def c 27 (d := d_law_cell) rfl); exact ⟨ga K "_law_cell", fd, PySem.W.mg_of X G (eqO_ok (saysM_fact c 39 (f := f_g_law_cell) rfl)), F⟩
  case d_law_hash => obtain ⟨fd, F⟩ := (saysM_def c 28 (d := d_law_hash) rfl); exact ⟨ga K "_law_hash", fd, PySem.W.mg_of X G (eqO_ok (saysM_fact c 40 (f := f_g_law_hash) rfl)), F⟩
  case d_law_generator => obtain ⟨fd, F⟩ := (saysM_def c 29 (d := d_law_generator) rfl); exact ⟨ga K "_law_generator", fd, PySem.W.mg_of X G (eqO_ok (saysM_fact c 41 (f := f_g_law_generator) rfl)), F⟩
  case d_law_random => obtain ⟨fd, F⟩ := (saysM_def c 30 (d := d_law_random) rfl); exact ⟨ga K "_law_random", fd, PySem.W.mg_of X G (eqO_ok (saysM_fact c 42 (f := f_g_law_random) rfl)), F⟩
  case d_law_shuffled => obtain ⟨fd, F⟩ := (saysM_def c 31 (d := d_law_shuffled) rfl); exact ⟨ga K "_law_shuffled", fd, PySem.W.mg_of X G (eqO_ok (saysM_fact c 43 (f := f_g_law_shuffled) rfl)), F⟩
  case d_law_random_chart => obtain ⟨fd, F⟩ := (saysM_def c 32 (d := d_law_random_chart) rfl); exact ⟨ga K "_law_random_chart", fd, PySem.W.mg_of X G (eqO_ok (saysM_fact c 44 (f := f_g_law_random_chart) rfl)), F⟩
  case d_law_open => obtain ⟨fd, F⟩ := (saysM_def c 33 (d := d_law_open) rfl); exact ⟨ga K "_law_open", fd, PySem.W.mg_of X G (eqO_ok (saysM_fact c 45 (f := f_g_law_open) rfl)), F⟩
  case d_law_people => obtain ⟨fd, F⟩ := (saysM_def c 34 (d := d_law_people) rfl); exact ⟨ga K "_law_people", fd, PySem.W.mg_of X G (eqO_ok (saysM_fact c 46 (f := f_g_law_people) rfl)), F⟩
  case d_law_random_people => obtain ⟨fd, F⟩ := (saysM_def c 35 (d := d_law_random_people) rfl); exact ⟨ga K "_law_random_people", fd, PySem.W.mg_of X G (eqO_ok (saysM_fact c 47 (f := f_g_law_random_people) rfl)), F⟩
  case d_law_filled => obtain ⟨fd, F⟩ := (saysM_def c 36 (d := d_law_filled) rfl); exact ⟨ga K "_law_filled", fd, PySem.W.mg_of X G (eqO_ok (saysM_fact c 48 (f := f_g_law_filled) rfl)), F⟩
  case d_law_random_arrangement => obtain ⟨fd, F⟩ := (saysM_def c 37 (d := d_law_random_arrangement) rfl); exact ⟨ga K "_law_random_arrangement", fd, PySem.W.mg_of X G (eqO_ok (saysM_fact c 49 (f := f_g_law_random_arrangement) rfl)), F⟩
  case d_law_is_correct => obtain ⟨fd, F⟩ := (saysM_def c 38 (d := d_law_is_correct) rfl); exact ⟨ga K "_law_is_correct", fd, PySem.W.mg_of X G (eqO_ok (saysM_fact c 50 (f := f_g_law_is_correct) rfl)), F⟩
  case d_law_strict_is_correct => obtain ⟨fd, F⟩ := (saysM_def c 39 (d := d_law_strict_is_correct) rfl); exact ⟨ga K "_law_strict_is_correct", fd, PySem.W.mg_of X G (eqO_ok (saysM_fact c 51 (f := f_g_law_strict_is_correct) rfl)), F⟩
  case d_law => obtain ⟨fd, F⟩ := (saysM_def c 40 (d := d_law) rfl); exact ⟨ga K "law", fd, PySem.W.mg_of X G (eqO_ok (saysM_fact c 52 (f := f_g_law) rfl)), F⟩
  case d_Tree_path => obtain ⟨fd, F⟩ := (saysM_def c 41 (d := d_Tree_path) rfl); exact ⟨ma K (ga K "Tree") "path", fd, fun C hC => (by cases hC; exact meth_ok (x := "Tree") (m := "path") (saysM_fact c 85 (f := f_m_Tree_path) rfl)), F⟩
  case d_Tree_common => obtain ⟨fd, F⟩ := (saysM_def c 42 (d := d_Tree_common) rfl); exact ⟨ma K (ga K "Tree") "common", fd, fun C hC => (by cases hC; exact meth_ok (x := "Tree") (m := "common") (saysM_fact c 86 (f := f_m_Tree_common) rfl)), F⟩
  case d_Change_first_after => obtain ⟨fd, F⟩ := (saysM_def c 43 (d := d_Change_first_after) rfl); exact ⟨ma K (ga K "Change") "first_after", fd, fun C hC => (by cases hC; exact meth_ok (x := "Change") (m := "first_after") (saysM_fact c 87 (f := f_m_Change_first_after) rfl)), F⟩
  case d_Change_staying => obtain ⟨fd, F⟩ := (saysM_def c 44 (d := d_Change_staying) rfl); exact ⟨ma K (ga K "Change") "staying", fd, fun C hC => (by cases hC; exact meth_ok (x := "Change") (m := "staying") (saysM_fact c 88 (f := f_m_Change_staying) rfl)), F⟩
  case d_Change_leaving_steps => obtain ⟨fd, F⟩ := (saysM_def c 45 (d := d_Change_leaving_steps) rfl); exact ⟨ma K (ga K "Change") "leaving_steps", fd, fun C hC => (by cases hC; exact meth_ok (x := "Change") (m := "leaving_steps") (saysM_fact c 89 (f := f_m_Change_leaving_steps) rfl)), F⟩
  case d_Change_joining_steps => obtain ⟨fd, F⟩ := (saysM_def c 46 (d := d_Change_joining_steps) rfl); exact ⟨ma K (ga K "Change") "joining_steps", fd, fun C hC => (by cases hC; exact meth_ok (x := "Change") (m := "joining_steps") (saysM_fact c 90 (f := f_m_Change_joining_steps) rfl)), F⟩
  case d_Change_plan => obtain ⟨fd, F⟩ := (saysM_def c 47 (d := d_Change_plan) rfl); exact ⟨ma K (ga K "Change") "plan", fd, fun C hC => (by cases hC; exact meth_ok (x := "Change") (m := "plan") (saysM_fact c 91 (f := f_m_Change_plan) rfl)), F⟩
  case d_Trial_enter => obtain ⟨fd, F⟩ := (saysM_def c 48 (d := d_Trial_enter) rfl); exact ⟨ma K (ga K "Trial") "__enter__", fd, fun C hC => (by cases hC; exact meth_ok (x := "Trial") (m := "__enter__") (saysM_fact c 92 (f := f_m_Trial_enter) rfl)), F⟩
  case d_Trial_exit => obtain ⟨fd, F⟩ := (saysM_def c 49 (d := d_Trial_exit) rfl); exact ⟨ma K (ga K "Trial") "__exit__", fd, fun C hC => (by cases hC; exact meth_ok (x := "Trial") (m := "__exit__") (saysM_fact c 93 (f := f_m_Trial_exit) rfl)), F⟩
  case d_Office_put => 
    obtain ⟨fd, F⟩ := (saysM_def c 50 (d := d_Office_put) rfl)
    have m1 : Meth K (ga K "Office") "put" (ma K (ga K "Office") "put") := meth_ok (x := "Office") (m := "put") (saysM_fact c 94 (f := f_m_Office_put) rfl)
    refine ⟨ma K (ga K "Office") "put", fd, fun C hC => ?_, F⟩
    rcases hC with rfl | rfl
    · exact m1
    · exact ⟨eqO_ok (saysM_fact c 95 (f := f_ms_Office_put) rfl), m1.fn, m1.kp⟩
  case d_Office_play => obtain ⟨fd, F⟩ := (saysM_def c 51 (d := d_Office_play) rfl); exact ⟨ma K (ga K "Office") "play", fd, fun C hC => (by cases hC; exact meth_ok (x := "Office") (m := "play") (saysM_fact c 96 (f := f_m_Office_play) rfl)), F⟩
  case d_Office_undo => obtain ⟨fd, F⟩ := (saysM_def c 52 (d := d_Office_undo) rfl); exact ⟨ma K (ga K "Office") "undo", fd, fun C hC => (by cases hC; exact meth_ok (x := "Office") (m := "undo") (saysM_fact c 97 (f := f_m_Office_undo) rfl)), F⟩
  case d_Office_preview => obtain ⟨fd, F⟩ := (saysM_def c 53 (d := d_Office_preview) rfl); exact ⟨ma K (ga K "Office") "preview", fd, fun C hC => (by cases hC; exact meth_ok (x := "Office") (m := "preview") (saysM_fact c 98 (f := f_m_Office_preview) rfl)), F⟩
  case d_Office_rehearse => obtain ⟨fd, F⟩ := (saysM_def c 54 (d := d_Office_rehearse) rfl); exact ⟨ma K (ga K "Office") "rehearse", fd, fun C hC => (by cases hC; exact meth_ok (x := "Office") (m := "rehearse") (saysM_fact c 99 (f := f_m_Office_rehearse) rfl)), F⟩
  case d_Office_log => obtain ⟨fd, F⟩ := (saysM_def c 55 (d := d_Office_log) rfl); exact ⟨ma K (ga K "Office") "log", fd, fun C hC => (by cases hC; exact meth_ok (x := "Office") (m := "log") (saysM_fact c 100 (f := f_m_Office_log) rfl)), F⟩
  case d_Office_len => 
    obtain ⟨fd, F⟩ := (saysM_def c 56 (d := d_Office_len) rfl)
    have m1 : Meth K (ga K "Office") "__len__" (ma K (ga K "Office") "__len__") := meth_ok (x := "Office") (m := "__len__") (saysM_fact c 101 (f := f_m_Office_len) rfl)
    refine ⟨ma K (ga K "Office") "__len__", fd, fun C hC => ?_, F⟩
    rcases hC with rfl | rfl
    · exact m1
    · exact ⟨eqO_ok (saysM_fact c 102 (f := f_ms_Office_len) rfl), m1.fn, m1.kp⟩
  case d_Office_contains => 
    obtain ⟨fd, F⟩ := (saysM_def c 57 (d := d_Office_contains) rfl)
    have m1 : Meth K (ga K "Office") "__contains__" (ma K (ga K "Office") "__contains__") := meth_ok (x := "Office") (m := "__contains__") (saysM_fact c 103 (f := f_m_Office_contains) rfl)
    refine ⟨ma K (ga K "Office") "__contains__", fd, fun C hC => ?_, F⟩
    rcases hC with rfl | rfl
    · exact m1
    · exact ⟨eqO_ok (saysM_fact c 104 (f := f_ms_Office_contains) rfl), m1.fn, m1.kp⟩
  case d_Office_eq => 
    obtain ⟨fd, F⟩ := (saysM_def c 58 (d := d_Office_eq) rfl)
    have m1 : Meth K (ga K "Office") "__eq__" (ma K (ga K "Office") "__eq__") := meth_ok (x := "Office") (m := "__eq__") (saysM_fact c 105 (f := f_m_Office_eq) rfl)
    refine ⟨ma K (ga K "Office") "__eq__", fd, fun C hC => ?_, F⟩
    rcases hC with rfl | rfl
    · exact m1
    · exact ⟨eqO_ok (saysM_fact c 106 (f := f_ms_Office_eq) rfl), m1.fn, m1.kp⟩
  case d_StrictOffice_admit => obtain ⟨fd, F⟩ := (saysM_def c 59 (d := d_StrictOffice_admit) rfl); exact ⟨ma K (ga K "StrictOffice") "admit", fd, fun C hC => (by cases hC; exact meth_ok (x := "StrictOffice") (m := "admit") (saysM_fact c 107 (f := f_m_StrictOffice_admit) rfl)), F⟩
  case d_Tree_init => obtain ⟨fd, F⟩ := (saysM_def c 61 (d := d_Tree_init) rfl); exact ⟨PySem.W.mg_of X G (eqO_ok (saysM_fact c 53 (f := f_g_Tree) rfl)), ma K (ga K "Tree") "__init__", fd, mkr_ok (x := "Tree") (saysM_fact c 109 (f := f_k_Tree) rfl), F⟩
  case d_Change_init => obtain ⟨fd, F⟩ := (saysM_def c 62 (d := d_Change_init) rfl); exact ⟨PySem.W.mg_of X G (eqO_ok (saysM_fact c 54 (f := f_g_Change) rfl)), ma K (ga K "Change") "__init__", fd, mkr_ok (x := "Change") (saysM_fact c 110 (f := f_k_Change) rfl), F⟩
  case d_Trial_init => obtain ⟨fd, F⟩ := (saysM_def c 63 (d := d_Trial_init) rfl); exact ⟨PySem.W.mg_of X G (eqO_ok (saysM_fact c 55 (f := f_g_Trial) rfl)), ma K (ga K "Trial") "__init__", fd, mkr_ok (x := "Trial") (saysM_fact c 111 (f := f_k_Trial) rfl), F⟩
  case d_Office_init => obtain ⟨fd, F⟩ := (saysM_def c 64 (d := d_Office_init) rfl); exact ⟨PySem.W.mg_of X G (eqO_ok (saysM_fact c 56 (f := f_g_Office) rfl)), ma K (ga K "Office") "__init__", fd, mkr_ok (x := "Office") (saysM_fact c 112 (f := f_k_Office) rfl), F⟩
  case d_Office_arrangement => 
    obtain ⟨fd, F⟩ := (saysM_def c 65 (d := d_Office_arrangement) rfl)
    have m1 : PropOf K (ga K "Office") "arrangement" (ma K (ga K "Office") "arrangement") (recG K (ma K (ga K "Office") "arrangement") "property") := ⟨eqO_ok (saysM_fact c 115 (f := f_pf_arrangement) rfl), eqO_ok (saysM_fact c 116 (f := f_pg_arrangement) rfl), of_decide_eq_true (saysM_fact c 117 (f := f_pt_arrangement) rfl), recB_ok (saysM_fact c 118 (f := f_pr_arrangement) rfl)⟩
    refine ⟨(ma K (ga K "Office") "arrangement"), recG K (ma K (ga K "Office") "arrangement") "property", fd, fun C hC => ?_, F⟩
    rcases hC with rfl | rfl
    · exact m1
    · exact ⟨eqO_ok (saysM_fact c 119 (f := f_ps_arrangement) rfl), m1.get, m1.tak, m1.rec_⟩
  case d_Office_people => 
    obtain ⟨fd, F⟩ := (saysM_def c 66 (d := d_Office_people) rfl)
    have m1 : PropOf K (ga K "Office") "people" (ma K (ga K "Office") "people") (recG K (ma K (ga K "Office") "people") "property") := ⟨eqO_ok (saysM_fact c 120 (f := f_pf_people) rfl), eqO_ok (saysM_fact c 121 (f := f_pg_people) rfl), of_decide_eq_true (saysM_fact c 122 (f := f_pt_people) rfl), recB_ok (saysM_fact c 123 (f := f_pr_people) rfl)⟩
    refine ⟨(ma K (ga K "Office") "people"), recG K (ma K (ga K "Office") "people") "property", fd, fun C hC => ?_, F⟩
    rcases hC with rfl | rfl
    · exact m1
    · exact ⟨eqO_ok (saysM_fact c 124 (f := f_ps_people) rfl), m1.get, m1.tak, m1.rec_⟩
  case d_Office_head => 
    obtain ⟨fd, F⟩ := (saysM_def c 67 (d := d_Office_head) rfl)
    have m1 : PropOf K (ga K "Office") "head" (ma K (ga K "Office") "head") (recG K (ma K (ga K "Office") "head") "property") := ⟨eqO_ok (saysM_fact c 125 (f := f_pf_head) rfl), eqO_ok (saysM_fact c 126 (f := f_pg_head) rfl), of_decide_eq_true (saysM_fact c 127 (f := f_pt_head) rfl), recB_ok (saysM_fact c 128 (f := f_pr_head) rfl)⟩
    refine ⟨(ma K (ga K "Office") "head"), recG K (ma K (ga K "Office") "head") "property", fd, fun C hC => ?_, F⟩
    cases hC; exact m1
  case cl_T => exact cls_ok (x := "Tree") (saysM_fact c 60 (f := f_c_Tree) rfl)
  case n_T_above => exact noat_ok (x := "Tree") (f := "above") (saysM_fact c 65 (f := f_n_T_above) rfl)
  case n_T_below => exact noat_ok (x := "Tree") (f := "below") (saysM_fact c 66 (f := f_n_T_below) rfl)
  case cl_R => exact cls_ok (x := "Trial") (saysM_fact c 62 (f := f_c_Trial) rfl)
  case n_R_office => exact noat_ok (x := "Trial") (f := "office") (saysM_fact c 67 (f := f_n_R_office) rfl)
  case n_R_now => exact noat_ok (x := "Trial") (f := "now") (saysM_fact c 68 (f := f_n_R_now) rfl)
  case n_R_past => exact noat_ok (x := "Trial") (f := "past") (saysM_fact c 69 (f := f_n_R_past) rfl)
  case n_R_done => exact noat_ok (x := "Trial") (f := "done") (saysM_fact c 70 (f := f_n_R_done) rfl)
  case cl_O => exact cls_ok (x := "Office") (saysM_fact c 63 (f := f_c_Office) rfl)
  case n_O_above => exact noat_ok (x := "Office") (f := "above") (saysM_fact c 71 (f := f_n_O_above) rfl)
  case n_O_now => exact noat_ok (x := "Office") (f := "now") (saysM_fact c 72 (f := f_n_O_now) rfl)
  case n_O_past => exact noat_ok (x := "Office") (f := "past") (saysM_fact c 73 (f := f_n_O_past) rfl)
  case n_O_done => exact noat_ok (x := "Office") (f := "done") (saysM_fact c 74 (f := f_n_O_done) rfl)
  case cl_S => exact cls_ok (x := "StrictOffice") (saysM_fact c 64 (f := f_c_StrictOffice) rfl)
  case n_S_above => exact noat_ok (x := "StrictOffice") (f := "above") (saysM_fact c 75 (f := f_n_S_above) rfl)
  case n_S_now => exact noat_ok (x := "StrictOffice") (f := "now") (saysM_fact c 76 (f := f_n_S_now) rfl)
  case n_S_past => exact noat_ok (x := "StrictOffice") (f := "past") (saysM_fact c 77 (f := f_n_S_past) rfl)
  case n_S_done => exact noat_ok (x := "StrictOffice") (f := "done") (saysM_fact c 78 (f := f_n_S_done) rfl)
  case cl_C => exact cls_ok (x := "Change") (saysM_fact c 61 (f := f_c_Change) rfl)
  case n_C_tree => exact noat_ok (x := "Change") (f := "tree") (saysM_fact c 79 (f := f_n_C_tree) rfl)
  case n_C_before => exact noat_ok (x := "Change") (f := "before") (saysM_fact c 80 (f := f_n_C_before) rfl)
  case n_C_after => exact noat_ok (x := "Change") (f := "after") (saysM_fact c 81 (f := f_n_C_after) rfl)
  case n_C_starts => exact noat_ok (x := "Change") (f := "starts") (saysM_fact c 82 (f := f_n_C_starts) rfl)
  case n_C_ends => exact noat_ok (x := "Change") (f := "ends") (saysM_fact c 83 (f := f_n_C_ends) rfl)
  case n_C_reaching => exact noat_ok (x := "Change") (f := "reaching") (saysM_fact c 84 (f := f_n_C_reaching) rfl)
  case d_Office_leave => obtain ⟨fd, F⟩ := (saysM_def c 60 (d := d_Office_leave) rfl); exact ⟨_, fd, fun C hC => (by cases hC; exact ⟨meth_ok (x := "Office") (m := "leave") (saysM_fact c 108 (f := f_m_Office_leave) rfl), eqO_ok (saysM_fact c 129 (f := f_bl_g) rfl), of_decide_eq_true (saysM_fact c 130 (f := f_bl_t) rfl), by decide +kernel, (saysM_fact c 131 (f := f_bl_f) rfl)⟩), F⟩
  case d_Office_vacant => obtain ⟨fd, F⟩ := (saysM_def c 68 (d := d_Office_vacant) rfl); exact ⟨.type "type", ma K (ga K "StrictOffice") "vacant", _, fd, ⟨(saysM_fact c 132 (f := f_v_rd) rfl), eqO_ok (saysM_fact c 133 (f := f_v_ga) rfl)⟩, ⟨cmB_ok (saysM_fact c 134 (f := f_v_cm) rfl), recB_ok (saysM_fact c 135 (f := f_v_rc) rfl), (saysM_fact c 136 (f := f_v_fi) rfl)⟩, F⟩
  case d_Strict_init => 
    obtain ⟨fd, F⟩ := (saysM_def c 64 (d := d_Office_init) rfl)
    have e : ma K (ga K "StrictOffice") "__init__" = ma K (ga K "Office") "__init__" := of_decide_eq_true (saysM_fact c 114 (f := f_init_S) rfl)
    have m1 := mkr_ok (x := "StrictOffice") (saysM_fact c 113 (f := f_k_StrictOffice) rfl)
    rw [e] at m1
    exact ⟨_, fd, m1, F⟩
  case g_Strict => exact PySem.W.mg_of X G (eqO_ok (saysM_fact c 57 (f := f_g_StrictOffice) rfl))
  case a_leave => exact (PySem.W.mg_of X G (eqO_ok (saysM_fact c 58 (f := f_a_leave) rfl))).trans (PySem.W.mg_of X G (eqO_ok (saysM_fact c 28 (f := f_g_leave) rfl))).symm
  case a_play => exact (PySem.W.mg_of X G (eqO_ok (saysM_fact c 59 (f := f_a_play) rfl))).trans (PySem.W.mg_of X G (eqO_ok (saysM_fact c 35 (f := f_g_play) rfl))).symm
  case neO => exact eqO_ok (saysM_fact c 137 (f := f_o_ne) rfl)
  case mroO => exact of_decide_eq_true (saysM_fact c 138 (f := f_o_mro) rfl)
  case nf_OO => exact (saysM_fact c 139 (f := f_o_nf) rfl)
  case nf_SO => exact (saysM_fact c 140 (f := f_s_nf) rfl)
  case isiO => intro H a dx fs e; exact .ins e (cls_ok (x := "Office") (saysM_fact c 63 (f := f_c_Office) rfl)) (eqO_ok (saysM_fact c 141 (f := f_o_cl) rfl)) (eqO_ok (saysM_fact c 142 (f := f_o_gs) rfl)) (of_decide_eq_true (saysM_fact c 143 (f := f_o_tk) rfl)) (of_decide_eq_true (saysM_fact c 138 (f := f_o_mro) rfl))
  case kitO => exact of_decide_eq_true (saysM_fact c 144 (f := f_o_kit) rfl)
end MH
end

section
set_option Elab.async false
set_option linter.all false
set_option maxRecDepth 100000
set_option maxHeartbeats 0
namespace MH
open PySem PySem.W PySem.Calls PyProof.Rows
abbrev R : OpenRow := OpenLaw.row PySem.Challenge.rw_movingup_k93_whole_offices_and_changes
abbrev qv : Program := view R.prog [64]
def names1 : List PySem.Str := ["_wall", "MovingUpError", "InvalidChart", "InvalidArrangement", "InvalidPost", "InvalidPerson", "InvalidPlan", "PlanBlocked", "InvalidNumber", "NothingToUndo", "is_whole", "chart_fault", "require_chart", "Tree", "is_person", "first_fault", "repeats", "is_out_of_order", "arrangement_fault", "require_arrangement", "posts_of_people", "require_holder", "is_open", "move_up", "leave_one", "join_one", "open_posts", "leave", "leave_arrangements", "join"]
def names2 : List PySem.Str := ["is_step", "plan_fault", "step_possible", "make_step", "after_step", "play_on", "play", "play_changes", "Change", "change_of", "fewest_changes", "Trial", "Office", "StrictOffice", "smallest_open", "_law_cell", "_law_hash", "_law_generator", "_law_random", "_law_shuffled", "_law_random_chart", "_law_open", "_law_people", "_law_random_people", "_law_filled", "_law_random_arrangement", "_law_is_correct", "_law_strict_is_correct"]
def names : List PySem.Str := names1 ++ names2
abbrev hk : PySem.W.Hook := hookM tops ex fn
def ob (s : PySem.W.SharedT) : AlM := obsMG tops ex fn (HandSHeadRun.getT s)
theorem ob_eq (s : PySem.W.SharedT) : ob s = hk.obs s.abs := obsM_eq (HandSHeadRun.getT_eq s)
theorem run (w : World) : HandSHeadRun.RunEq R qv hk ob 20000 names w := by
  intro os
  kernel_rfl
theorem law_ok {P : Program} {w : World} {K : PySem.W.Frag} {h : Heap} {mg : PySem.Str → Option Value} {f : Addr} (X : K.In h) (G : h.Ns mainGlobals mg) (hfa : mg ("law" : PySem.Str) = some (.ref f)) (c : obsM ex fn K = valM fn) :
    ∃ fd : FuncData, (∀ (s : Shared) (v : Value), BindsTo s fd ⟨[v], []⟩ [("_law_script", v)]) ∧ ∀ base : Heap, K.In base → base.Ns mainGlobals mg → L2.FnOk P w K mg base L2.CX0 9 f fd ["_law_script"] (MV.sp1 (MV.a_law K)) := by
  have T := fx X G c
  obtain ⟨f', fd, hm, F⟩ := T.d_law
  have e := hfa.symm.trans hm
  cases e
  have b := L2.FunD.bindsA (ps := ["_law_script"]) F fun _ _ _ _ _ _ us hl => match us, hl with | [_], _ => rfl
  exact ⟨fd, fun s v => b s [v] rfl, fun base _ _ => MV.fn1 F MV.sc_law (MV.bd_law T)⟩
end MH
open PySem PySem.W PySem.Calls PyProof.Rows
theorem PySem.Challenge.cw_movingup_k93_whole_offices_and_changes_holds : PySem.Challenge.rw_movingup_k93_whole_offices_and_changes.Holds := by
  w_on; o_law
  refine HandSHeadRun.head_any (r := OpenLaw.row PySem.Challenge.rw_movingup_k93_whole_offices_and_changes) (q := view (OpenLaw.row PySem.Challenge.rw_movingup_k93_whole_offices_and_changes).prog [64]) (H := MH.hk) (ob := MH.ob) (M := 20000) (loose := MH.names) (d := HandSHeadRun.topDef (OpenLaw.row PySem.Challenge.rw_movingup_k93_whole_offices_and_changes).prog 64) (kwd := []) MH.ob_eq
    (by kernel_rfl) (fun s => by kernel_rfl) MH.run (by kernel_rfl) (by kernel_rfl) (by kernel_rfl) (by rfl) (by first | assumption | decide +kernel) (by decide +kernel) ⟨rfl, rfl, rfl, rfl, rfl, by decide +kernel⟩ ?hw ?hc
  case hw => w_witness2
  case hc =>
    refine L2.walk_ofE (l := PySem.Challenge.rw_movingup_k93_whole_offices_and_changes) (n := 63) (k := 9) (x := "_law_script") (CX := L2.CX0) rfl (by decide) (by kernel_rfl) ⟨rfl, by decide, by decide⟩ ?F (fun _ _ _ _ z => z)
    intro w mg fa h Y G hmg0
    obtain ⟨K, KX, c⟩ := Y
    have hmg : mg ("law" : PySem.Str) = some (.ref fa) := by
      have e : (HandSHeadRun.topDef (OpenLaw.row PySem.Challenge.rw_movingup_k93_whole_offices_and_changes).prog 64).name = ("law" : PySem.Str) := by kernel_rfl
      rw [← e]
      exact hmg0
    obtain ⟨fd, hb, hF⟩ := MH.law_ok (P := (PySem.Challenge.rw_movingup_k93_whole_offices_and_changes).prog) (w := w) KX G hmg c
    exact ⟨K, fd, MV.sp1 (MV.a_law K), KX, hb, fun H a ns hl _ hS => ⟨a, ns, rfl, hS, fun _ => rfl⟩, hF⟩
end
