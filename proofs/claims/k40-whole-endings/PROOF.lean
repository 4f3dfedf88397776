import PyProof.Rows.All
import Wide.All
import OpenK.AllK
import Wide.FinOn
import HandS.ForMost
import HandS.Evl
import HandS.Sort
import HandS.Steps
import KE.SortData
import PySem.Challenge.RW_warden_k40_whole_endings
set_option Elab.async false
set_option linter.all false
set_option maxRecDepth 100000
set_option maxHeartbeats 4000000
namespace Wd
/-! ### arrays of prices, relaxation to a fixed point -/
abbrev Ar := List (Option Nat)
def g (X : Ar) (t : Nat) : Option Nat := X.getD t none
theorem g_lt {X : Ar} {t a : Nat} (h : g X t = some a) : t < X.length := by
  unfold g at h
  rw [List.getD_eq_getElem?_getD] at h
  cases e : X[t]? with
  | none => rw [e] at h; cases h
  | some v => exact (List.getElem?_eq_some_iff.mp e).1
theorem g_get {X : Ar} {t : Nat} (h : t < X.length) : X[t]? = some (g X t) := by
  unfold g
  rw [List.getD_eq_getElem?_getD, List.getElem?_eq_getElem h]
  rfl
theorem g_of {X : Ar} {t : Nat} {v : Option Nat} (h : X[t]? = some v) : g X t = v := by
  unfold g
  rw [List.getD_eq_getElem?_getD, h]
  rfl
theorem g_same {X : Ar} {t : Nat} {v : Option Nat} (h : t < X.length) : g (X.set t v) t = v :=
  g_of (List.getElem?_set_self h)
theorem g_ne {X : Ar} {t i : Nat} {v : Option Nat} (h : i ≠ t) : g (X.set t v) i = g X i := by
  unfold g
  rw [List.getD_eq_getElem?_getD, List.getD_eq_getElem?_getD, List.getElem?_set_ne (Ne.symm h)]
theorem g_rep {n i : Nat} : g (List.replicate n none) i = none := by
  cases e : g (List.replicate n none) i with
  | none => rfl
  | some a =>
    have h := g_lt e
    have h2 := g_get h
    rw [e, List.getElem?_replicate] at h2
    split at h2
    · cases h2
    · cases h2
def nn : Ar → Nat
  | [] => 0
  | none :: r => nn r + 1
  | some _ :: r => nn r
def tt : Ar → Nat
  | [] => 0
  | none :: r => tt r
  | some a :: r => a + tt r
theorem nn_set_none : ∀ (X : Ar) (t c : Nat), t < X.length → g X t = none → nn (X.set t (some c)) + 1 = nn X
  | [], t, c, h, _ => by simp at h
  | x :: r, 0, c, _, e => by
    have e : x = none := e
    subst e
    rfl
  | x :: r, t + 1, c, h, e => by
    have ih := nn_set_none r t c (by simpa using h) e
    cases x with
    | none => show nn (r.set t (some c)) + 1 + 1 = nn r + 1; omega
    | some a => show nn (r.set t (some c)) + 1 = nn r; omega
theorem nn_set_some : ∀ (X : Ar) (t c a : Nat), g X t = some a → nn (X.set t (some c)) = nn X ∧ tt (X.set t (some c)) + a = tt X + c
  | [], t, c, a, h => by cases h
  | x :: r, 0, c, a, e => by
    have e : x = some a := e
    subst e
    refine ⟨rfl, ?_⟩
    show c + tt r + a = a + tt r + c
    omega
  | x :: r, t + 1, c, a, e => by
    have ih := nn_set_some r t c a e
    cases x with
    | none =>
      refine ⟨?_, ih.2⟩
      show nn (r.set t (some c)) + 1 = nn r + 1
      omega
    | some b =>
      refine ⟨ih.1, ?_⟩
      show b + tt (r.set t (some c)) + a = b + tt r + c
      omega
def low (X : Ar) (t c : Nat) : Ar × Bool :=
  match g X t with
  | none => (X.set t (some c), true)
  | some a => if c < a then (X.set t (some c), true) else (X, false)
theorem low_len (X : Ar) (t c : Nat) : (low X t c).1.length = X.length := by
  unfold low
  split
  · simp
  · split
    · simp
    · rfl
theorem low_none {X : Ar} {t c : Nat} (h : g X t = none) : low X t c = (X.set t (some c), true) := by
  unfold low
  rw [h]
theorem low_lt {X : Ar} {t c a : Nat} (h : g X t = some a) (h2 : c < a) : low X t c = (X.set t (some c), true) := by
  unfold low
  rw [h]
  exact if_pos h2
theorem low_ge {X : Ar} {t c a : Nat} (h : g X t = some a) (h2 : ¬ c < a) : low X t c = (X, false) := by
  unfold low
  rw [h]
  exact if_neg h2
/-- what low does: nothing, or the entry is set to a lower one -/
theorem low_cases (X : Ar) (t c : Nat) : (low X t c = (X, false) ∧ ∃ a, g X t = some a ∧ a ≤ c) ∨ (low X t c = (X.set t (some c), true) ∧ (g X t = none ∨ ∃ a, g X t = some a ∧ c < a)) := by
  cases e : g X t with
  | none => exact .inr ⟨low_none e, .inl rfl⟩
  | some a =>
    by_cases h : c < a
    · exact .inr ⟨low_lt e h, .inr ⟨a, rfl, h⟩⟩
    · exact .inl ⟨low_ge e h, a, rfl, by omega⟩
/-- entries fall alone -/
def Le (Y X : Ar) : Prop := ∀ i a, g X i = some a → ∃ b, g Y i = some b ∧ b ≤ a
theorem Le.refl (X : Ar) : Le X X := fun _ a h => ⟨a, h, Nat.le_refl _⟩
theorem Le.trans {Z Y X : Ar} (h1 : Le Z Y) (h2 : Le Y X) : Le Z X := fun i a h => by
  obtain ⟨b, hb, l⟩ := h2 i a h
  obtain ⟨c, hc, l2⟩ := h1 i b hb
  exact ⟨c, hc, by omega⟩
theorem low_le (X : Ar) (t c : Nat) : Le (low X t c).1 X := by
  rcases low_cases X t c with ⟨e, _⟩ | ⟨e, h⟩
  · rw [e]; exact Le.refl X
  · rw [e]
    intro i a hi
    by_cases q : i = t
    · subst q
      refine ⟨c, g_same (g_lt hi), ?_⟩
      rcases h with h | ⟨a', h, l⟩
      · rw [h] at hi; cases hi
      · rw [h] at hi; cases hi; omega
    · exact ⟨a, by rw [show (X.set t (some c), true).1 = X.set t (some c) from rfl, g_ne q]; exact hi, Nat.le_refl _⟩
section
variable (cand : Ar → Nat → Nat → Option (Nat × Nat))
def relax (X : Ar) (p q : Nat) : Ar × Bool :=
  match cand X p q with
  | none => (X, false)
  | some tc => low X tc.1 tc.2
def turn (S : Ar × Bool) (p q : Nat) : Ar × Bool := ((relax cand S.1 p q).1, S.2 || (relax cand S.1 p q).2)
def inn (p : Nat) : Nat → Ar × Bool → Ar × Bool
  | 0, S => S
  | j + 1, S => turn cand (inn p j S) p (j + 1)
def out (m : Nat) : Nat → Ar × Bool → Ar × Bool
  | 0, S => S
  | i + 1, S => inn cand (i + 1) m (out m i S)
def pass (m : Nat) (X : Ar) : Ar × Bool := out cand m m (X, false)
def iter (m : Nat) : Nat → Ar → Ar
  | 0, X => X
  | k + 1, X => iter m k (pass cand m X).1
def Stop (m k : Nat) (X : Ar) : Prop := (pass cand m (iter cand m k X)).2 = false
variable {cand}
/-- a candidate's target stands in the array -/
def Tgt (n m : Nat) (cand : Ar → Nat → Nat → Option (Nat × Nat)) : Prop := ∀ X p q t c, X.length = n → 1 ≤ p → p ≤ m → 1 ≤ q → q ≤ m → cand X p q = some (t, c) → t < n
theorem relax_len (X : Ar) (p q : Nat) : (relax cand X p q).1.length = X.length := by
  unfold relax
  split
  · rfl
  · exact low_len _ _ _
theorem relax_le (X : Ar) (p q : Nat) : Le (relax cand X p q).1 X := by
  unfold relax
  split
  · exact Le.refl X
  · exact low_le _ _ _
/-- a property of the array that every turn keeps -/
theorem inn_inv {I : Ar → Prop} {m p : Nat} (hs : ∀ X q, 1 ≤ q → q ≤ m → I X → I (relax cand X p q).1) : ∀ (j : Nat) (S : Ar × Bool), j ≤ m → I S.1 → I (inn cand p j S).1
  | 0, S, _, h => h
  | j + 1, S, hj, h => hs _ _ (by omega) hj (inn_inv hs j S (by omega) h)
theorem out_inv {I : Ar → Prop} {m : Nat} (hs : ∀ X p q, 1 ≤ p → p ≤ m → 1 ≤ q → q ≤ m → I X → I (relax cand X p q).1) : ∀ (i : Nat) (S : Ar × Bool), i ≤ m → I S.1 → I (out cand m i S).1
  | 0, S, _, h => h
  | i + 1, S, hi, h => inn_inv (fun X q h1 h2 => hs X (i + 1) q (by omega) hi h1 h2) m _ (Nat.le_refl _) (out_inv hs i S (by omega) h)
theorem pass_inv {I : Ar → Prop} {m : Nat} (hs : ∀ X p q, 1 ≤ p → p ≤ m → 1 ≤ q → q ≤ m → I X → I (relax cand X p q).1) (X : Ar) (h : I X) : I (pass cand m X).1 := out_inv hs m _ (Nat.le_refl _) h
theorem iter_inv {I : Ar → Prop} {m : Nat} (hs : ∀ X p q, 1 ≤ p → p ≤ m → 1 ≤ q → q ≤ m → I X → I (relax cand X p q).1) : ∀ (k : Nat) (X : Ar), I X → I (iter cand m k X)
  | 0, _, h => h
  | k + 1, X, h => iter_inv hs k _ (pass_inv hs X h)
theorem inn_len (p j : Nat) (S : Ar × Bool) : (inn cand p j S).1.length = S.1.length :=
  inn_inv (I := fun Y => Y.length = S.1.length) (m := j) (fun X q _ _ h => (relax_len X p q).trans h) j S (Nat.le_refl _) rfl
theorem out_len (m i : Nat) (S : Ar × Bool) (h : i ≤ m) : (out cand m i S).1.length = S.1.length :=
  out_inv (I := fun Y => Y.length = S.1.length) (m := m) (fun X p q _ _ _ _ h => (relax_len X p q).trans h) i S h rfl
theorem pass_len (m : Nat) (X : Ar) : (pass cand m X).1.length = X.length := out_len m m _ (Nat.le_refl _)
theorem iter_len (m : Nat) : ∀ (k : Nat) (X : Ar), (iter cand m k X).length = X.length
  | 0, _ => rfl
  | k + 1, X => (iter_len m k _).trans (pass_len m X)
/-- the lexical measure -/
def Less (Y X : Ar) : Prop := nn Y < nn X ∨ (nn Y = nn X ∧ tt Y < tt X)
theorem Less.trans {Z Y X : Ar} (h1 : Less Z Y) (h2 : Less Y X) : Less Z X := by
  unfold Less at *
  omega
theorem low_less {X : Ar} {t c : Nat} (ht : t < X.length) : low X t c = (X, false) ∨ ((low X t c).2 = true ∧ Less (low X t c).1 X) := by
  rcases low_cases X t c with ⟨e, _⟩ | ⟨e, h⟩
  · exact .inl e
  · right
    rw [e]
    refine ⟨rfl, ?_⟩
    rcases h with h | ⟨a, h, l⟩
    · left
      have := nn_set_none X t c ht h
      show nn (X.set t (some c)) < nn X
      omega
    · right
      have := nn_set_some X t c a h
      show nn (X.set t (some c)) = nn X ∧ tt (X.set t (some c)) < tt X
      omega
theorem relax_less {n m : Nat} (T : Tgt n m cand) {X : Ar} (hX : X.length = n) {p q : Nat} (h1 : 1 ≤ p) (h2 : p ≤ m) (h3 : 1 ≤ q) (h4 : q ≤ m) : relax cand X p q = (X, false) ∨ ((relax cand X p q).2 = true ∧ Less (relax cand X p q).1 X) := by
  unfold relax
  split
  · exact .inl rfl
  · rename_i tc e
    exact low_less (by rw [hX]; exact T X p q tc.1 tc.2 hX h1 h2 h3 h4 (by rw [e]))
/-- what a run of turns does: all alike and the flag as it was, or the flag is up and less is left -/
def Went (S' S : Ar × Bool) : Prop := S' = S ∨ (S'.2 = true ∧ Less S'.1 S.1)
theorem Went.trans {S2 S1 S : Ar × Bool} (h1 : Went S2 S1) (h2 : Went S1 S) : Went S2 S := by
  rcases h1 with rfl | ⟨f, l⟩
  · exact h2
  · rcases h2 with rfl | ⟨f2, l2⟩
    · exact .inr ⟨f, l⟩
    · exact .inr ⟨f, l.trans l2⟩
theorem turn_went {n m : Nat} (T : Tgt n m cand) {S : Ar × Bool} (hS : S.1.length = n) {p q : Nat} (h1 : 1 ≤ p) (h2 : p ≤ m) (h3 : 1 ≤ q) (h4 : q ≤ m) : Went (turn cand S p q) S := by
  rcases relax_less T hS h1 h2 h3 h4 with e | ⟨f, l⟩
  · left
    unfold turn
    rw [e]
    show (S.1, S.2 || false) = S
    rw [Bool.or_false]
  · right
    unfold turn
    refine ⟨?_, l⟩
    show (S.2 || (relax cand S.1 p q).2) = true
    rw [f, Bool.or_true]
theorem inn_went {n m : Nat} (T : Tgt n m cand) {p : Nat} (h1 : 1 ≤ p) (h2 : p ≤ m) : ∀ (j : Nat) (S : Ar × Bool), j ≤ m → S.1.length = n → Went (inn cand p j S) S
  | 0, S, _, _ => .inl rfl
  | j + 1, S, hj, h => (turn_went T (by rw [inn_len]; exact h) h1 h2 (by omega) hj).trans (inn_went T h1 h2 j S (by omega) h)
theorem out_went {n m : Nat} (T : Tgt n m cand) : ∀ (i : Nat) (S : Ar × Bool), i ≤ m → S.1.length = n → Went (out cand m i S) S
  | 0, S, _, _ => .inl rfl
  | i + 1, S, hi, h => (inn_went T (by omega) hi m _ (Nat.le_refl _) (by rw [out_len m i S (by omega)]; exact h)).trans (out_went T i S (by omega) h)
/-- a set flag stays set; so where the flag is down behind, nothing was changed -/
theorem went_false {S' S : Ar × Bool} (h : Went S' S) (f : S'.2 = false) : S' = S := by
  rcases h with e | ⟨t, _⟩
  · exact e
  · rw [f] at t; cases t
theorem exists_stop {n m : Nat} (T : Tgt n m cand) : ∀ X : Ar, X.length = n → ∃ k, Stop cand m k X := by
  have main : ∀ a b : Nat, ∀ X : Ar, nn X = a → tt X = b → X.length = n → ∃ k, Stop cand m k X := by
    intro a
    induction a using Nat.strongRecOn with
    | _ a iha =>
      intro b
      induction b using Nat.strongRecOn with
      | _ b ihb =>
        intro X ha hb hX
        cases f : (pass cand m X).2 with
        | false => exact ⟨0, f⟩
        | true =>
          rcases out_went T m (X, false) (Nat.le_refl _) hX with e | ⟨_, l⟩
          · have f2 : (out cand m m (X, false)).2 = true := f
            rw [e] at f2
            cases f2
          · have hl : (pass cand m X).1.length = n := by rw [pass_len]; exact hX
            have hL : nn (pass cand m X).1 < nn X ∨ (nn (pass cand m X).1 = nn X ∧ tt (pass cand m X).1 < tt X) := l
            rcases hL with h | ⟨h1, h2⟩
            · obtain ⟨k, hk⟩ := iha _ (by rw [← ha]; exact h) _ (pass cand m X).1 rfl rfl hl
              exact ⟨k + 1, hk⟩
            · obtain ⟨k, hk⟩ := ihb _ (by rw [← hb]; exact h2) (pass cand m X).1 (h1.trans ha) rfl hl
              exact ⟨k + 1, hk⟩
  exact fun X h => main _ _ X rfl rfl h
theorem iter_add (m : Nat) : ∀ (j k : Nat) (X : Ar), iter cand m (j + k) X = iter cand m k (iter cand m j X)
  | 0, k, X => by rw [Nat.zero_add]; rfl
  | j + 1, k, X => by
    rw [show j + 1 + k = (j + k) + 1 by omega]
    show iter cand m (j + k) (pass cand m X).1 = iter cand m k (iter cand m j (pass cand m X).1)
    exact iter_add m j k _
theorem iter_still {m : Nat} {X : Ar} (e : pass cand m X = (X, false)) : ∀ k, iter cand m k X = X
  | 0 => rfl
  | k + 1 => by
    show iter cand m k (pass cand m X).1 = X
    rw [e]
    exact iter_still e k
theorem pass_still {n m : Nat} (T : Tgt n m cand) {X : Ar} (hX : X.length = n) (f : (pass cand m X).2 = false) : pass cand m X = (X, false) :=
  went_false (out_went T m (X, false) (Nat.le_refl _) hX) f
theorem stop_same {n m : Nat} (T : Tgt n m cand) {j k : Nat} {X : Ar} (hX : X.length = n) (hj : Stop cand m j X) (hk : Stop cand m k X) : iter cand m j X = iter cand m k X := by
  have one : ∀ j k, j ≤ k → Stop cand m j X → iter cand m k X = iter cand m j X := fun j k h hj => by
    obtain ⟨d, rfl⟩ : ∃ d, k = j + d := ⟨k - j, by omega⟩
    rw [iter_add]
    exact iter_still (pass_still T (by rw [iter_len]; exact hX) hj) d
  rcases Nat.le_total j k with h | h
  · exact (one j k h hj).symm
  · exact one k j h hk
variable (cand) in
open Classical in
noncomputable def lim (m : Nat) (X : Ar) : Ar := if h : ∃ k, Stop cand m k X then iter cand m (Classical.choose h) X else X
theorem lim_eq {n m : Nat} (T : Tgt n m cand) {j : Nat} {X : Ar} (hX : X.length = n) (hj : Stop cand m j X) : iter cand m j X = lim cand m X := by
  unfold lim
  have h : ∃ k, Stop cand m k X := ⟨j, hj⟩
  rw [dif_pos h]
  exact stop_same T hX hj (Classical.choose_spec h)
theorem lim_stop {n m : Nat} (T : Tgt n m cand) {X : Ar} (hX : X.length = n) : pass cand m (lim cand m X) = (lim cand m X, false) := by
  obtain ⟨j, hj⟩ := exists_stop T X hX
  rw [← lim_eq T hX hj]
  exact pass_still T (by rw [iter_len]; exact hX) hj
theorem lim_inv {n m : Nat} (T : Tgt n m cand) {I : Ar → Prop} (hs : ∀ X p q, 1 ≤ p → p ≤ m → 1 ≤ q → q ≤ m → I X → I (relax cand X p q).1) {X : Ar} (hX : X.length = n) (h : I X) : I (lim cand m X) := by
  obtain ⟨j, hj⟩ := exists_stop T X hX
  rw [← lim_eq T hX hj]
  exact iter_inv hs j X h
theorem lim_len {n m : Nat} (T : Tgt n m cand) {X : Ar} (hX : X.length = n) : (lim cand m X).length = n :=
  lim_inv T (I := fun Y => Y.length = n) (fun X p q _ _ _ _ h => (relax_len X p q).trans h) hX hX
theorem lim_le {n m : Nat} (T : Tgt n m cand) {X : Ar} (hX : X.length = n) : Le (lim cand m X) X :=
  lim_inv T (I := fun Y => Le Y X) (fun Y p q _ _ _ _ h => (relax_le Y p q).trans h) hX (Le.refl X)
/-- at a still array every candidate is no lower than what stands -/
theorem still_inn {n m : Nat} (T : Tgt n m cand) {X : Ar} (hX : X.length = n) {p : Nat} (hp1 : 1 ≤ p) (hp2 : p ≤ m) : ∀ (j : Nat), j ≤ m → inn cand p j (X, false) = (X, false) → ∀ q, 1 ≤ q → q ≤ j → relax cand X p q = (X, false)
  | 0, _, _, q, h1, h2 => by omega
  | j + 1, hjm, e, q, h1, h2 => by
    have hj : inn cand p j (X, false) = (X, false) := by
      have f : (inn cand p j (X, false)).2 = false := by
        cases z : (inn cand p j (X, false)).2 with
        | false => rfl
        | true =>
          have e2 : (turn cand (inn cand p j (X, false)) p (j + 1)).2 = false := by
            show (inn cand p (j + 1) (X, false)).2 = false
            rw [e]
          have e3 : ((inn cand p j (X, false)).2 || (relax cand (inn cand p j (X, false)).1 p (j + 1)).2) = false := e2
          rw [z] at e3
          cases e3
      exact went_false (inn_went T hp1 hp2 j (X, false) (by omega) hX) f
    by_cases hq : q = j + 1
    · subst hq
      have e2 : turn cand (inn cand p j (X, false)) p (j + 1) = (X, false) := e
      rw [hj] at e2
      rcases relax_less T hX hp1 hp2 (by omega) hjm with z | ⟨f, _⟩
      · exact z
      · have e3 : (false || (relax cand X p (j + 1)).2) = false := congrArg Prod.snd e2
        rw [f] at e3
        cases e3
    · exact still_inn T hX hp1 hp2 j (by omega) hj q h1 (by omega)
theorem still_out {n m : Nat} (T : Tgt n m cand) {X : Ar} (hX : X.length = n) : ∀ (i : Nat), i ≤ m → out cand m i (X, false) = (X, false) → ∀ p q, 1 ≤ p → p ≤ i → 1 ≤ q → q ≤ m → relax cand X p q = (X, false)
  | 0, _, _, p, q, h1, h2, _, _ => by omega
  | i + 1, hi, e, p, q, h1, h2, h3, h4 => by
    have w1 := out_went T i (X, false) (by omega) hX
    have w2 := inn_went T (show 1 ≤ i + 1 by omega) hi m (out cand m i (X, false)) (Nat.le_refl _) (by rw [out_len m i _ (by omega)]; exact hX)
    have e' : inn cand (i + 1) m (out cand m i (X, false)) = (X, false) := e
    have ho : out cand m i (X, false) = (X, false) := by
      rcases w1 with z | ⟨f, l⟩
      · exact z
      · rw [e'] at w2
        rcases w2 with z | ⟨f2, _⟩
        · rw [← z]
        · cases f2
    rw [ho] at e'
    by_cases hp : p = i + 1
    · subst hp
      exact still_inn T hX h1 hi m (Nat.le_refl _) e' q h3 h4
    · exact still_out T hX i (by omega) ho p q h1 (by omega) h3 h4
theorem lim_fix {n m : Nat} (T : Tgt n m cand) {X : Ar} (hX : X.length = n) {p q t c : Nat} (h1 : 1 ≤ p) (h2 : p ≤ m) (h3 : 1 ≤ q) (h4 : q ≤ m) (h : cand (lim cand m X) p q = some (t, c)) : ∃ a, g (lim cand m X) t = some a ∧ a ≤ c := by
  have hL := lim_len T hX
  have s := still_out T hL m (Nat.le_refl _) (lim_stop T hX) p q h1 h2 h3 h4
  unfold relax at s
  rw [h] at s
  have s : low (lim cand m X) t c = (lim cand m X, false) := s
  rcases low_cases (lim cand m X) t c with ⟨_, a, ha, l⟩ | ⟨e, _⟩
  · exact ⟨a, ha, l⟩
  · rw [e] at s
    cases (congrArg Prod.snd s)
end
end Wd
namespace Wd
/-! ### signs, labels, machines -/
def smalls : List Nat := [97, 98, 99, 100, 101, 102, 103, 104, 105, 106, 107, 108, 109, 110, 111, 112, 113, 114, 115, 116, 117, 118, 119, 120, 121, 122]
def digs : List Nat := [48, 49, 50, 51, 52, 53, 54, 55, 56, 57]
def wsigns : List Nat := smalls ++ digs
def colon (l : List Nat) : Bool := l.getLast? == some 58
def LabOk (l : List Nat) : Prop := ∃ (t : List Nat) (b : Bool), l = t ++ (if b then [58] else []) ∧ 1 ≤ t.length ∧ t.length ≤ 8 ∧ ∀ c ∈ t, c ∈ smalls
theorem small_ne {c : Nat} (h : c ∈ smalls) : c ≠ 40 ∧ c ≠ 41 ∧ c ≠ 58 := by
  refine ⟨fun e => ?_, fun e => ?_, fun e => ?_⟩ <;> (subst e; revert h; decide)
theorem wsign_ne {c : Nat} (h : c ∈ wsigns) : c ≠ 40 ∧ c ≠ 41 ∧ c ≠ 58 := by
  refine ⟨fun e => ?_, fun e => ?_, fun e => ?_⟩ <;> (subst e; revert h; decide)
theorem small_w {c : Nat} (h : c ∈ smalls) : c ∈ wsigns := List.mem_append_left _ h
theorem colon_snoc (l : List Nat) (c : Nat) : colon (l ++ [c]) = (c == 58) := by
  unfold colon
  rw [List.getLast?_append]
  simp
theorem colon_nil : colon [] = false := rfl
structure Mach where
  n : Nat
  starts : List (List Nat × Nat)
  rows : List (List Nat)
  good : List Nat
def Mach.st (M : Mach) (p q : Nat) : Nat := (M.rows.getD p []).getD q 0
structure Mach.Ok (M : Mach) : Prop where
  n1 : 1 ≤ M.n
  rl : M.rows.length = M.n
  rw_ : ∀ (p : Nat) (r : List Nat), M.rows[p]? = some r → r.length = M.n ∧ ∀ x ∈ r, x < M.n
  z1 : ∀ q, M.st 0 q = 0
  z2 : ∀ p, M.st p 0 = 0
  sl : ∀ l s, (l, s) ∈ M.starts → LabOk l ∧ 1 ≤ s ∧ s < M.n
  snd : (M.starts.map (·.1)).Nodup
  gd : ∀ s ∈ M.good, 1 ≤ s ∧ s < M.n
variable {M : Mach}
theorem Mach.Ok.st_lt (o : M.Ok) (p q : Nat) : M.st p q < M.n := by
  unfold Mach.st
  have h0 := o.n1
  rw [List.getD_eq_getElem?_getD]
  cases e : (M.rows.getD p [])[q]? with
  | none => exact h0
  | some x =>
    rw [List.getD_eq_getElem?_getD] at e
    cases e2 : M.rows[p]? with
    | none => rw [e2] at e; simp at e
    | some r =>
      rw [e2] at e
      exact (o.rw_ p r e2).2 x (List.mem_of_getElem? e)
theorem Mach.Ok.st_get (o : M.Ok) {p q : Nat} (hp : p < M.n) (hq : q < M.n) : ∃ r, M.rows[p]? = some r ∧ r.length = M.n ∧ r[q]? = some (M.st p q) := by
  have h1 : p < M.rows.length := by rw [o.rl]; exact hp
  refine ⟨M.rows[p], List.getElem?_eq_getElem h1, (o.rw_ p _ (List.getElem?_eq_getElem h1)).1, ?_⟩
  have h2 : q < (M.rows[p]).length := by rw [(o.rw_ p _ (List.getElem?_eq_getElem h1)).1]; exact hq
  unfold Mach.st
  rw [List.getD_eq_getElem?_getD (l := M.rows), List.getElem?_eq_getElem h1]
  show _ = some ((M.rows[p]).getD q 0)
  rw [List.getD_eq_getElem?_getD, List.getElem?_eq_getElem h2]
  rfl
/-! ### prices -/
def price (l : List Nat) : Nat := l.length + 2 + (if colon l then 1 else 0)
theorem lab_len {l : List Nat} (h : LabOk l) : 1 ≤ l.length := by
  obtain ⟨t, b, rfl, h1, _, _⟩ := h
  rw [List.length_append]
  omega
def startP (n : Nat) : List (List Nat × Nat) → Ar
  | [] => List.replicate n none
  | ls :: r => (low (startP n r) ls.2 (price ls.1)).1
/-- the program goes from the left: the same by the reversed list -/
def started (M : Mach) : Ar := startP M.n M.starts.reverse
theorem startP_len (n : Nat) : ∀ l, (startP n l).length = n
  | [] => List.length_replicate
  | ls :: r => (low_len _ _ _).trans (startP_len n r)
theorem started_len : (started M).length = M.n := startP_len _ _
def candP (M : Mach) : Ar → Nat → Nat → Option (Nat × Nat) := fun X p q =>
  match g X p, g X q with
  | some a, some b => if M.st p q = 0 then none else some (M.st p q, a + b)
  | _, _ => none
theorem candP_some {X : Ar} {p q t c : Nat} (h : candP M X p q = some (t, c)) : ∃ a b, g X p = some a ∧ g X q = some b ∧ M.st p q ≠ 0 ∧ t = M.st p q ∧ c = a + b := by
  unfold candP at h
  cases e1 : g X p with
  | none => rw [e1] at h; cases h
  | some a =>
    cases e2 : g X q with
    | none => rw [e1, e2] at h; cases h
    | some b =>
      rw [e1, e2] at h
      by_cases z : M.st p q = 0
      · simp [z] at h
      · simp only [if_neg z, Option.some.injEq, Prod.mk.injEq] at h
        exact ⟨a, b, rfl, rfl, z, h.1.symm, h.2.symm⟩
theorem candP_of {X : Ar} {p q a b : Nat} (h1 : g X p = some a) (h2 : g X q = some b) (z : M.st p q ≠ 0) : candP M X p q = some (M.st p q, a + b) := by
  unfold candP
  rw [h1, h2]
  exact if_neg z
theorem candP_tgt (o : M.Ok) (m : Nat) : Tgt M.n m (candP M) := fun X p q t c _ _ _ _ _ h => by
  obtain ⟨_, _, _, _, _, rfl, _⟩ := candP_some h
  exact o.st_lt p q
noncomputable def prices (M : Mach) : Ar := lim (candP M) (M.n - 1) (started M)
theorem prices_len (o : M.Ok) : (prices M).length = M.n := lim_len (candP_tgt o _) started_len
/-- what comes of a candidate: as it was, or the entry is set to the candidate's price, all entries fall alone -/
theorem relax_cases (cand : Ar → Nat → Nat → Option (Nat × Nat)) (X : Ar) (p q : Nat) : (relax cand X p q).1 = X ∨ ∃ t c, cand X p q = some (t, c) ∧ (relax cand X p q).1 = X.set t (some c) := by
  unfold relax
  cases e : cand X p q with
  | none => exact .inl rfl
  | some tc =>
    obtain ⟨t, c⟩ := tc
    rcases low_cases X t c with ⟨z, _⟩ | ⟨z, _⟩
    · left; show (low X t c).1 = X; rw [z]
    · right; exact ⟨t, c, rfl, by show (low X t c).1 = _; rw [z]⟩
theorem g_set_cases {X : Ar} {t c i a : Nat} (h : g (X.set t (some c)) i = some a) : (i = t ∧ a = c) ∨ (i ≠ t ∧ g X i = some a) := by
  by_cases q : i = t
  · subst q
    have hl := g_lt h
    rw [List.length_set] at hl
    rw [g_same hl] at h
    exact .inl ⟨rfl, (Option.some.inj h).symm⟩
  · rw [g_ne q] at h
    exact .inr ⟨q, h⟩
theorem startP_cases {n : Nat} : ∀ {l : List (List Nat × Nat)} {s a : Nat}, g (startP n l) s = some a → ∃ x, (x, s) ∈ l ∧ price x = a
  | [], s, a, h => by
    have h : g (List.replicate n none) s = some a := h
    rw [g_rep] at h
    cases h
  | ls :: r, s, a, h => by
    have h : g (low (startP n r) ls.2 (price ls.1)).1 s = some a := h
    rcases low_cases (startP n r) ls.2 (price ls.1) with ⟨e, _⟩ | ⟨e, _⟩
    · rw [e] at h
      obtain ⟨x, hx, p⟩ := startP_cases (l := r) h
      exact ⟨x, List.mem_cons_of_mem _ hx, p⟩
    · rw [e] at h
      rcases g_set_cases h with ⟨rfl, rfl⟩ | ⟨_, h⟩
      · exact ⟨ls.1, List.mem_cons_self, rfl⟩
      · obtain ⟨x, hx, p⟩ := startP_cases (l := r) h
        exact ⟨x, List.mem_cons_of_mem _ hx, p⟩
theorem startP_has {n : Nat} : ∀ {l : List (List Nat × Nat)} {x : List Nat} {s : Nat}, s < n → (x, s) ∈ l → ∃ a, g (startP n l) s = some a ∧ a ≤ price x
  | ls :: r, x, s, hs, h => by
    show ∃ a, g (low (startP n r) ls.2 (price ls.1)).1 s = some a ∧ a ≤ price x
    rcases List.mem_cons.mp h with e | h
    · subst e
      rcases low_cases (startP n r) s (price x) with ⟨e, a, ha, l⟩ | ⟨e, _⟩
      · rw [show low (startP n r) (x, s).2 (price (x, s).1) = low (startP n r) s (price x) from rfl, e]
        exact ⟨a, ha, l⟩
      · rw [show low (startP n r) (x, s).2 (price (x, s).1) = low (startP n r) s (price x) from rfl, e]
        exact ⟨_, g_same (by rw [startP_len]; exact hs), Nat.le_refl _⟩
    · obtain ⟨a, ha, l⟩ := startP_has (l := r) hs h
      obtain ⟨b, hb, l2⟩ := low_le (startP n r) ls.2 (price ls.1) s a ha
      exact ⟨b, hb, by omega⟩
/-- what holds of every array on the way -/
structure PInv (M : Mach) (X : Ar) : Prop where
  le : Le X (started M)
  len : X.length = M.n
  zero : g X 0 = none
  pos : ∀ s c, g X s = some c → 3 ≤ c
  att : ∀ s c, g X s = some c → (∃ l, (l, s) ∈ M.starts ∧ price l ≤ c) ∨ ∃ p q a b, M.st p q = s ∧ g X p = some a ∧ g X q = some b ∧ a + b ≤ c
theorem started_inv (o : M.Ok) : PInv M (started M) := by
  have has : ∀ s c, g (started M) s = some c → ∃ x, (x, s) ∈ M.starts ∧ price x = c := fun s c h => by
    obtain ⟨x, hx, p⟩ := startP_cases (show g (startP M.n M.starts.reverse) s = some c from h)
    exact ⟨x, List.mem_reverse.mp hx, p⟩
  refine ⟨Le.refl _, started_len, ?_, fun s c h => ?_, fun s c h => ?_⟩
  · cases e : g (started M) 0 with
    | none => rfl
    | some a =>
      obtain ⟨x, hx, _⟩ := has 0 a e
      have := (o.sl x 0 hx).2.1
      omega
  · obtain ⟨x, hx, rfl⟩ := has s c h
    have := lab_len (o.sl x s hx).1
    unfold price
    omega
  · obtain ⟨x, hx, rfl⟩ := has s c h
    exact .inl ⟨x, hx, Nat.le_refl _⟩
theorem relaxP_inv (o : M.Ok) (X : Ar) (p q : Nat) (I : PInv M X) : PInv M (relax (candP M) X p q).1 := by
  have le := relax_le (cand := candP M) X p q
  rcases relax_cases (candP M) X p q with e | ⟨t, c, hc, e⟩
  · rw [e]; exact I
  · obtain ⟨a, b, ha, hb, hz, rfl, rfl⟩ := candP_some hc
    rw [e] at le
    rw [e]
    refine ⟨le.trans I.le, by rw [List.length_set]; exact I.len, by rw [g_ne (Ne.symm hz)]; exact I.zero, fun s d h => ?_, fun s d h => ?_⟩
    · rcases g_set_cases h with ⟨rfl, rfl⟩ | ⟨_, h⟩
      · have := I.pos _ _ ha
        omega
      · exact I.pos _ _ h
    · rcases g_set_cases h with ⟨rfl, rfl⟩ | ⟨_, h⟩
      · obtain ⟨a', ha', la⟩ := le _ _ ha
        obtain ⟨b', hb', lb⟩ := le _ _ hb
        exact .inr ⟨p, q, a', b', rfl, ha', hb', by omega⟩
      · rcases I.att _ _ h with z | ⟨p', q', a1, b1, z, h1, h2, l⟩
        · exact .inl z
        · obtain ⟨a', ha', la⟩ := le _ _ h1
          obtain ⟨b', hb', lb⟩ := le _ _ h2
          exact .inr ⟨p', q', a', b', z, ha', hb', by omega⟩
theorem prices_inv (o : M.Ok) : PInv M (prices M) :=
  lim_inv (candP_tgt o _) (fun X p q _ _ _ _ I => relaxP_inv o X p q I) started_len (started_inv o)
theorem price_start (o : M.Ok) {l : List Nat} {s : Nat} (h : (l, s) ∈ M.starts) : ∃ a, g (prices M) s = some a ∧ a ≤ price l := by
  obtain ⟨a, ha, l1⟩ := startP_has (n := M.n) (l := M.starts.reverse) (o.sl l s h).2.2 (List.mem_reverse.mpr h)
  obtain ⟨b, hb, l2⟩ := (prices_inv o).le s a ha
  exact ⟨b, hb, by omega⟩
/-- a state with a price is from 1 to n - 1 -/
theorem price_rng (o : M.Ok) {s a : Nat} (h : g (prices M) s = some a) : 1 ≤ s ∧ s ≤ M.n - 1 ∧ s < M.n := by
  have h1 := g_lt h
  rw [prices_len o] at h1
  have h2 : s ≠ 0 := fun e => by
    rw [e, (prices_inv o).zero] at h
    cases h
  omega
theorem price_step (o : M.Ok) {p q a b : Nat} (h1 : g (prices M) p = some a) (h2 : g (prices M) q = some b) (z : M.st p q ≠ 0) : ∃ c, g (prices M) (M.st p q) = some c ∧ c ≤ a + b := by
  have rp := price_rng o h1
  have rq := price_rng o h2
  exact lim_fix (candP_tgt o _) started_len rp.1 rp.2.1 rq.1 rq.2.1 (candP_of h1 h2 z)
/-! ### closing costs -/
def candK (M : Mach) (P : Ar) : Ar → Nat → Nat → Option (Nat × Nat) := fun X p q =>
  match g P q, g X (M.st p q) with
  | some a, some b => some (p, a + b)
  | _, _ => none
theorem candK_some {P X : Ar} {p q t c : Nat} (h : candK M P X p q = some (t, c)) : ∃ a b, g P q = some a ∧ g X (M.st p q) = some b ∧ t = p ∧ c = a + b := by
  unfold candK at h
  cases e1 : g P q with
  | none => rw [e1] at h; cases h
  | some a =>
    cases e2 : g X (M.st p q) with
    | none => rw [e1, e2] at h; cases h
    | some b =>
      rw [e1, e2] at h
      simp only [Option.some.injEq, Prod.mk.injEq] at h
      exact ⟨a, b, rfl, rfl, h.1.symm, h.2.symm⟩
theorem candK_of {P X : Ar} {p q a b : Nat} (h1 : g P q = some a) (h2 : g X (M.st p q) = some b) : candK M P X p q = some (p, a + b) := by
  unfold candK
  rw [h1, h2]
def startK (D : Ar) : Ar := D.map fun v => v.map (· + 1)
theorem startK_len (D : Ar) : (startK D).length = D.length := List.length_map _
theorem g_startK (D : Ar) (p : Nat) : g (startK D) p = (g D p).map (· + 1) := by
  unfold g startK
  rw [List.getD_eq_getElem?_getD, List.getD_eq_getElem?_getD, List.getElem?_map]
  cases D[p]? <;> rfl
theorem candK_tgt (o : M.Ok) (P : Ar) : Tgt M.n (M.n - 1) (candK M P) := fun X p q t c _ h1 h2 _ _ h => by
  obtain ⟨_, _, _, _, rfl, _⟩ := candK_some h
  have := o.n1
  omega
/-- the closing costs of what stands behind the closing sign -/
noncomputable def kcl (M : Mach) (D : Ar) : Ar := lim (candK M (prices M)) (M.n - 1) (startK D)
structure KInv (M : Mach) (D X : Ar) : Prop where
  le : Le X (startK D)
  len : X.length = M.n
  zero : g X 0 = none
  pos : ∀ s c, g X s = some c → 1 ≤ c
  att : ∀ s c, g X s = some c → (∃ d, g D s = some d ∧ d + 1 ≤ c) ∨ ∃ q a b, g (prices M) q = some a ∧ g X (M.st s q) = some b ∧ a + b ≤ c
theorem startK_some {D : Ar} {s c : Nat} (h : g (startK D) s = some c) : ∃ d, g D s = some d ∧ d + 1 = c := by
  rw [g_startK] at h
  cases e : g D s with
  | none => rw [e] at h; cases h
  | some d =>
    rw [e] at h
    exact ⟨d, rfl, Option.some.inj h⟩
theorem startK_inv {D : Ar} (hl : D.length = M.n) (hz : g D 0 = none) : KInv M D (startK D) := by
  refine ⟨Le.refl _, (startK_len D).trans hl, by rw [g_startK, hz]; rfl, fun s c h => ?_, fun s c h => ?_⟩
  · obtain ⟨d, _, q⟩ := startK_some h
    omega
  · obtain ⟨d, e, q⟩ := startK_some h
    exact .inl ⟨d, e, by omega⟩
theorem relaxK_inv {D : Ar} (X : Ar) (p q : Nat) (h1 : 1 ≤ p) (I : KInv M D X) : KInv M D (relax (candK M (prices M)) X p q).1 := by
  have le := relax_le (cand := candK M (prices M)) X p q
  rcases relax_cases (candK M (prices M)) X p q with e | ⟨t, c, hc, e⟩
  · rw [e]; exact I
  · obtain ⟨a, b, ha, hb, rfl, rfl⟩ := candK_some hc
    rw [e] at le
    rw [e]
    refine ⟨le.trans I.le, by rw [List.length_set]; exact I.len, by rw [g_ne (by omega)]; exact I.zero, fun s d h => ?_, fun s d h => ?_⟩
    · rcases g_set_cases h with ⟨rfl, rfl⟩ | ⟨_, h⟩
      · have := I.pos _ _ hb
        omega
      · exact I.pos _ _ h
    · rcases g_set_cases h with ⟨rfl, rfl⟩ | ⟨_, h⟩
      · obtain ⟨b', hb', lb⟩ := le _ _ hb
        exact .inr ⟨q, a, b', ha, hb', by omega⟩
      · rcases I.att _ _ h with z | ⟨q', a1, b1, h1, h2, l⟩
        · exact .inl z
        · obtain ⟨b', hb', lb⟩ := le _ _ h2
          exact .inr ⟨q', a1, b', h1, hb', by omega⟩
section
variable {D : Ar} (o : M.Ok) (hl : D.length = M.n) (hz : g D 0 = none)
include o hl hz
theorem kcl_inv : KInv M D (kcl M D) :=
  lim_inv (candK_tgt o _) (fun X p q h1 _ _ _ I => relaxK_inv X p q h1 I) ((startK_len D).trans hl) (startK_inv hl hz)
theorem kcl_close {p d : Nat} (h : g D p = some d) : ∃ c, g (kcl M D) p = some c ∧ c ≤ d + 1 :=
  (kcl_inv o hl hz).le p (d + 1) (by rw [g_startK, h]; rfl)
theorem kcl_step {p q a b : Nat} (h0 : 1 ≤ p) (h1 : p < M.n) (h2 : g (prices M) q = some a) (h3 : g (kcl M D) (M.st p q) = some b) : ∃ c, g (kcl M D) p = some c ∧ c ≤ a + b := by
  have rq := price_rng o h2
  exact lim_fix (candK_tgt o _) ((startK_len D).trans hl) h0 (by omega) rq.1 rq.2.1 (candK_of h2 h3)
end
end Wd
namespace Wd
/-! ### the reader's mirror -/
variable {M : Mach}
def goodD (M : Mach) : Ar := M.good.foldl (fun X s => X.set s (some 0)) (List.replicate M.n none)
theorem goodF (n : Nat) : ∀ (l : List Nat) (X : Ar), X.length = n → (∀ s ∈ l, s < n) → (l.foldl (fun X s => X.set s (some 0)) X).length = n ∧
    ∀ s, g (l.foldl (fun X s => X.set s (some 0)) X) s = if s ∈ l then some 0 else g X s
  | [], X, h, _ => ⟨h, fun s => by simp⟩
  | a :: r, X, h, hl => by
    have ha := hl a List.mem_cons_self
    obtain ⟨i1, i2⟩ := goodF n r (X.set a (some 0)) (by rw [List.length_set]; exact h) (fun s hs => hl s (List.mem_cons_of_mem _ hs))
    refine ⟨i1, fun s => ?_⟩
    rw [List.foldl_cons, i2 s]
    by_cases h1 : s ∈ r
    · rw [if_pos h1, if_pos (List.mem_cons_of_mem _ h1)]
    · rw [if_neg h1]
      by_cases h2 : s = a
      · subst h2
        rw [if_pos List.mem_cons_self, g_same (by rw [h]; exact ha)]
      · rw [g_ne h2, if_neg (by simp [h1, h2])]
theorem goodD_len (o : M.Ok) : (goodD M).length = M.n := (goodF M.n M.good _ List.length_replicate fun s h => (o.gd s h).2).1
theorem g_goodD (o : M.Ok) (s : Nat) : g (goodD M) s = if s ∈ M.good then some 0 else none := by
  have h := (goodF M.n M.good (List.replicate M.n none) List.length_replicate fun s h => (o.gd s h).2).2 s
  rw [g_rep] at h
  exact h
/-- what stands behind the closing sign of a node to be opened; l: the states of the open nodes, the innermost first -/
def stepD (M : Mach) (K : Ar) (p : Nat) : Ar := (List.range M.n).map fun s => g K (M.st p s)
theorem stepD_len (K : Ar) (p : Nat) : (stepD M K p).length = M.n := by
  unfold stepD
  rw [List.length_map, List.length_range]
theorem g_stepD (K : Ar) (p : Nat) {s : Nat} (h : s < M.n) : g (stepD M K p) s = g K (M.st p s) := by
  apply g_of
  unfold stepD
  rw [List.getElem?_map, List.getElem?_range h]
  rfl
noncomputable def cl (M : Mach) : List Nat → Ar
  | [] => goodD M
  | p :: r => stepD M (kcl M (cl M r)) p
noncomputable def KC (M : Mach) (l : List Nat) : Ar := kcl M (cl M l)
theorem cl_nil : cl M [] = goodD M := rfl
theorem cl_cons (p : Nat) (r : List Nat) : cl M (p :: r) = stepD M (KC M r) p := rfl
theorem cl_len (o : M.Ok) : ∀ l, (cl M l).length = M.n
  | [] => goodD_len o
  | _ :: _ => stepD_len _ _
theorem cl_zero (o : M.Ok) : ∀ l, g (cl M l) 0 = none
  | [] => by
    rw [cl_nil, g_goodD o, if_neg]
    intro h
    have := (o.gd 0 h).1
    omega
  | p :: r => by
    rw [cl_cons, g_stepD _ _ (show 0 < M.n from o.n1), o.z2]
    exact (kcl_inv o (cl_len o r) (cl_zero o r)).zero
theorem K_inv (o : M.Ok) (l : List Nat) : KInv M (cl M l) (KC M l) := kcl_inv o (cl_len o l) (cl_zero o l)
theorem K_rng (o : M.Ok) {l : List Nat} {s a : Nat} (h : g (KC M l) s = some a) : 1 ≤ s ∧ s < M.n := by
  have h1 := g_lt h
  rw [(K_inv o l).len] at h1
  have h2 : s ≠ 0 := fun e => by
    rw [e, (K_inv o l).zero] at h
    cases h
  omega
theorem K_close (o : M.Ok) {l : List Nat} {p d : Nat} (h : g (cl M l) p = some d) : ∃ c, g (KC M l) p = some c ∧ c ≤ d + 1 := kcl_close o (cl_len o l) (cl_zero o l) h
theorem K_step (o : M.Ok) {l : List Nat} {p q a b : Nat} (h0 : 1 ≤ p) (h1 : p < M.n) (h2 : g (prices M) q = some a) (h3 : g (KC M l) (M.st p q) = some b) : ∃ c, g (KC M l) p = some c ∧ c ≤ a + b :=
  kcl_step o (cl_len o l) (cl_zero o l) h0 h1 h2 h3
/-- a label that costs no more than a tree of the state does -/
theorem lab_le (o : M.Ok) {l : List Nat} : ∀ (a s c : Nat), g (prices M) s = some a → g (KC M l) s = some c → ∃ x s' c', (x, s') ∈ M.starts ∧ g (KC M l) s' = some c' ∧ price x + c' ≤ a + c := by
  intro a
  induction a using Nat.strongRecOn with
  | _ a ih =>
    intro s c h1 h2
    rcases (prices_inv o).att s a h1 with ⟨x, hx, lx⟩ | ⟨p, q, a1, b1, z, hp, hq, la⟩
    · exact ⟨x, s, c, hx, h2, by omega⟩
    · have pb := (prices_inv o).pos _ _ hq
      have rp := price_rng o hp
      obtain ⟨c1, hc1, lc1⟩ := K_step o (l := l) rp.1 rp.2.2 hq (by rw [z]; exact h2)
      obtain ⟨x, s', c', hx, hc', l'⟩ := ih a1 (by omega) p c1 hp hc1
      exact ⟨x, s', c', hx, hc', by omega⟩
/-- a kid that costs no more than the label and its ending do -/
theorem kid_le (o : M.Ok) {l : List Nat} {p : Nat} : ∀ (c s a : Nat), g (KC M (p :: l)) s = some c → g (prices M) s = some a → ∃ q b a', g (prices M) q = some a' ∧ g (KC M l) (M.st p q) = some b ∧ a' + b + 1 ≤ a + c := by
  intro c
  induction c using Nat.strongRecOn with
  | _ c ih =>
    intro s a h1 h2
    have rs := K_rng o h1
    rcases (K_inv o (p :: l)).att s c h1 with ⟨d, hd, ld⟩ | ⟨q', a1, b1, hq, hk, la⟩
    · rw [cl_cons, g_stepD _ _ rs.2] at hd
      exact ⟨s, d, a, h2, hd, by omega⟩
    · have pa := (prices_inv o).pos _ _ hq
      have rk := K_rng o hk
      obtain ⟨a2, ha2, l2⟩ := price_step o h2 hq (by omega)
      obtain ⟨q, b, a', h3, h4, l4⟩ := ih b1 (by omega) _ a2 hk ha2
      exact ⟨q, b, a', h3, h4, by omega⟩
/-! ### the cheapest label -/
structure Cfg where
  sts : List Nat
  head : List Nat
  sg : Nat
  whole : Bool
def init : Cfg := ⟨[], [], 0, false⟩
def pre (h l : List Nat) : Bool := l.take h.length == h
def extra (l h : List Nat) (sg : Nat) : Nat := if colon l && (h != l || sg == 0) then 1 else 0
def cost1 (X : Ar) (sg : Nat) (h : List Nat) (ls : List Nat × Nat) : Option Nat :=
  if pre h ls.1 then (g X ls.2).map fun k => k + ls.1.length - h.length + 1 + extra ls.1 h sg else none
def best1 (X : Ar) (sg : Nat) (h : List Nat) (b : Option (Nat × List Nat)) (ls : List Nat × Nat) : Option (Nat × List Nat) :=
  match cost1 X sg h ls with
  | none => b
  | some c => match b with
    | none => some (c, ls.1)
    | some m => if c < m.1 then some (c, ls.1) else some m
def cheapL (X : Ar) (sg : Nat) (h : List Nat) (b : Option (Nat × List Nat)) (l : List (List Nat × Nat)) : Option (Nat × List Nat) := l.foldl (best1 X sg h) b
noncomputable def cheap (M : Mach) (c : Cfg) (h : List Nat) : Option (Nat × List Nat) := cheapL (KC M c.sts) c.sg h none M.starts
theorem cheapL_spec (X : Ar) (sg : Nat) (h : List Nat) : ∀ (l : List (List Nat × Nat)) (b : Option (Nat × List Nat)),
    (cheapL X sg h b l = none → b = none ∧ ∀ ls ∈ l, cost1 X sg h ls = none) ∧
    ∀ m x, cheapL X sg h b l = some (m, x) → (b = some (m, x) ∨ ∃ s, (x, s) ∈ l ∧ cost1 X sg h (x, s) = some m) ∧ (∀ m' x', b = some (m', x') → m ≤ m') ∧ ∀ ls ∈ l, ∀ c, cost1 X sg h ls = some c → m ≤ c
  | [], b => ⟨fun e => ⟨e, fun _ hl => (nomatch hl)⟩, fun m x e => ⟨.inl e, fun m' x' e' => by
      have e : b = some (m, x) := e
      rw [e] at e'
      cases e'
      exact Nat.le_refl _, fun _ hl => (nomatch hl)⟩⟩
  | ls :: r, b => by
    have ih := cheapL_spec X sg h r (best1 X sg h b ls)
    have e0 : cheapL X sg h b (ls :: r) = cheapL X sg h (best1 X sg h b ls) r := rfl
    rw [e0]
    cases ec : cost1 X sg h ls with
    | none =>
      have eb : best1 X sg h b ls = b := by unfold best1; rw [ec]
      rw [eb] at ih ⊢
      refine ⟨fun e => ⟨(ih.1 e).1, fun y hy => ?_⟩, fun m x e => ?_⟩
      · rcases List.mem_cons.mp hy with rfl | hy
        · exact ec
        · exact (ih.1 e).2 y hy
      · obtain ⟨i1, i2, i3⟩ := ih.2 m x e
        refine ⟨?_, i2, fun y hy c hc => ?_⟩
        · rcases i1 with i1 | ⟨s, hs, i1⟩
          · exact .inl i1
          · exact .inr ⟨s, List.mem_cons_of_mem _ hs, i1⟩
        · rcases List.mem_cons.mp hy with rfl | hy
          · rw [ec] at hc; cases hc
          · exact i3 y hy c hc
    | some c =>
      have eb : ∃ m0 x0, best1 X sg h b ls = some (m0, x0) ∧ m0 ≤ c ∧ (∀ m' x', b = some (m', x') → m0 ≤ m') ∧ (b = some (m0, x0) ∨ (m0 = c ∧ x0 = ls.1)) := by
        unfold best1
        rw [ec]
        cases b with
        | none => exact ⟨c, ls.1, rfl, Nat.le_refl _, fun _ _ z => (nomatch z), .inr ⟨rfl, rfl⟩⟩
        | some m =>
          by_cases lt : c < m.1
          · refine ⟨c, ls.1, by simp only [if_pos lt], Nat.le_refl _, fun m' x' z => ?_, .inr ⟨rfl, rfl⟩⟩
            cases z
            exact Nat.le_of_lt lt
          · refine ⟨m.1, m.2, by simp only [if_neg lt], by omega, fun m' x' z => ?_, .inl rfl⟩
            cases z
            exact Nat.le_refl _
      obtain ⟨m0, x0, eb, l0, l1, l2⟩ := eb
      rw [eb] at ih ⊢
      refine ⟨fun e => ?_, fun m x e => ?_⟩
      · cases (ih.1 e).1
      · obtain ⟨i1, i2, i3⟩ := ih.2 m x e
        have i20 := i2 m0 x0 rfl
        refine ⟨?_, fun m' x' z => Nat.le_trans i20 (l1 m' x' z), fun y hy c' hc => ?_⟩
        · rcases i1 with i1 | ⟨s, hs, i1⟩
          · cases i1
            rcases l2 with l2 | ⟨rfl, rfl⟩
            · exact .inl l2
            · exact .inr ⟨ls.2, List.mem_cons_self, ec⟩
          · exact .inr ⟨s, List.mem_cons_of_mem _ hs, i1⟩
        · rcases List.mem_cons.mp hy with rfl | hy
          · rw [ec] at hc; cases hc
            omega
          · exact i3 y hy c' hc
theorem cheap_none {c : Cfg} {h : List Nat} (e : cheap M c h = none) : ∀ ls ∈ M.starts, cost1 (KC M c.sts) c.sg h ls = none := ((cheapL_spec _ _ h M.starts none).1 e).2
theorem cheap_some {c : Cfg} {h : List Nat} {m : Nat} {x : List Nat} (e : cheap M c h = some (m, x)) :
    (∃ s, (x, s) ∈ M.starts ∧ cost1 (KC M c.sts) c.sg h (x, s) = some m) ∧ ∀ ls ∈ M.starts, ∀ k, cost1 (KC M c.sts) c.sg h ls = some k → m ≤ k := by
  obtain ⟨i1, _, i3⟩ := (cheapL_spec _ _ h M.starts none).2 m x e
  refine ⟨?_, i3⟩
  rcases i1 with z | z
  · cases z
  · exact z
theorem cheap_is {c : Cfg} {h : List Nat} {ls : List Nat × Nat} {k : Nat} (hm : ls ∈ M.starts) (hc : cost1 (KC M c.sts) c.sg h ls = some k) : ∃ m x, cheap M c h = some (m, x) ∧ m ≤ k := by
  cases e : cheap M c h with
  | none => rw [cheap_none e ls hm] at hc; cases hc
  | some mx => exact ⟨mx.1, mx.2, rfl, (cheap_some e).2 ls hm k hc⟩
theorem cost1_some {X : Ar} {sg : Nat} {h : List Nat} {ls : List Nat × Nat} {m : Nat} (e : cost1 X sg h ls = some m) : ∃ k, pre h ls.1 = true ∧ g X ls.2 = some k ∧ m = k + ls.1.length - h.length + 1 + extra ls.1 h sg := by
  unfold cost1 at e
  by_cases hp : pre h ls.1 = true
  · rw [if_pos hp] at e
    cases ek : g X ls.2 with
    | none => rw [ek] at e; cases e
    | some k =>
      rw [ek] at e
      exact ⟨k, hp, rfl, (Option.some.inj e).symm⟩
  · rw [if_neg hp] at e; cases e
theorem cost1_of {X : Ar} {sg : Nat} {h : List Nat} {ls : List Nat × Nat} {k : Nat} (hp : pre h ls.1 = true) (hk : g X ls.2 = some k) : cost1 X sg h ls = some (k + ls.1.length - h.length + 1 + extra ls.1 h sg) := by
  unfold cost1
  rw [if_pos hp, hk]
  rfl
theorem pre_iff {h l : List Nat} : pre h l = true ↔ ∃ r, l = h ++ r := by
  unfold pre
  rw [beq_iff_eq]
  constructor
  · intro e
    refine ⟨l.drop h.length, ?_⟩
    have := List.take_append_drop h.length l
    rw [e] at this
    exact this.symm
  · rintro ⟨r, rfl⟩
    rw [List.take_left]
theorem pre_len {h l : List Nat} (e : pre h l = true) : h.length ≤ l.length := by
  obtain ⟨r, rfl⟩ := pre_iff.mp e
  rw [List.length_append]
  omega
/-- a label's colon stands at its end: a beginning that ends with it is the label -/
theorem lab_colon {l h r : List Nat} (o : LabOk l) (e : l = h ++ r) (hc : colon h = true) : r = [] := by
  obtain ⟨t, b, rfl, _, _, ht⟩ := o
  cases r with
  | nil => rfl
  | cons x r =>
    exfalso
    have hh : ∃ h', h = h' ++ [58] := by
      unfold colon at hc
      rw [beq_iff_eq] at hc
      exact List.getLast?_eq_some_iff.mp hc
    obtain ⟨h', rfl⟩ := hh
    have no : 58 ∉ t := fun z => (small_ne (ht 58 z)).2.2 rfl
    cases b with
    | false =>
      have e : t ++ [] = h' ++ [58] ++ x :: r := e
      rw [List.append_nil] at e
      exact no (by rw [e]; simp)
    | true =>
      have e : t ++ [58] = h' ++ [58] ++ x :: r := e
      have e2 := congrArg List.dropLast e
      rw [List.dropLast_concat, List.dropLast_append_of_ne_nil (by simp)] at e2
      exact no (by rw [e2]; simp)
end Wd
namespace Wd
variable {M : Mach}
/-! ### fits, take, left, hint -/
def state0 (M : Mach) (h : List Nat) : Option Nat := (M.starts.find? fun ls => ls.1 == h).map (·.2)
def clD (M : Mach) (D : Ar) (p : Nat) : Bool := (g D p).isSome
noncomputable def closes (M : Mach) (c : Cfg) : Bool :=
  match c.sts with
  | [] => false
  | p :: r => (g (cl M r) p).isSome
noncomputable def opens (M : Mach) (c : Cfg) : Bool :=
  match state0 M c.head with
  | none => false
  | some s => (g (KC M c.sts) s).isSome
noncomputable def fits (M : Mach) (c : Cfg) (x : Nat) : Bool :=
  if c.whole then false
  else if colon c.head then (if x = 40 then decide (0 < c.sg) else decide (x ∈ wsigns) && decide (c.sg < 60))
  else if x = 40 then opens M c
  else if x = 41 then c.head == [] && closes M c
  else (decide (x ∈ smalls) || x == 58) && (cheap M c (c.head ++ [x])).isSome
def take (M : Mach) (c : Cfg) (x : Nat) : Cfg :=
  if x = 40 then ⟨(state0 M c.head).getD 0 :: c.sts, [], 0, c.whole⟩
  else if x = 41 then
    match c.sts with
    | [] => c
    | [_] => ⟨[], c.head, c.sg, true⟩
    | q :: p :: r => ⟨M.st p q :: r, c.head, c.sg, false⟩
  else if colon c.head then ⟨c.sts, c.head, c.sg + 1, c.whole⟩
  else ⟨c.sts, c.head ++ [x], c.sg, c.whole⟩
noncomputable def left (M : Mach) (c : Cfg) : Option Nat :=
  if c.whole then some 0
  else match c.head, c.sts with
    | [], p :: r => g (KC M r) p
    | _, _ => (cheap M c c.head).map (·.1)
/-- the sign of the label's next place, or what opens -/
noncomputable def hintB (M : Mach) (c : Cfg) (b : Nat × List Nat) : List Nat :=
  if c.head != b.2 then (match b.2[c.head.length]? with | some x => [x] | none => [])
  else if colon c.head && c.sg == 0 then [97] else [40]
/-- no label is as cheap as what is left -/
noncomputable def dearer (M : Mach) (c : Cfg) : Bool := match cheap M c c.head with
  | none => true
  | some b => decide (((left M c).getD 0) < b.1)
theorem dearer_none {c : Cfg} (h : cheap M c c.head = none) : dearer M c = true := by
  unfold dearer
  rw [h]
theorem dearer_some {c : Cfg} {b : Nat × List Nat} (h : cheap M c c.head = some b) : dearer M c = decide (((left M c).getD 0) < b.1) := by
  unfold dearer
  rw [h]
noncomputable def hint (M : Mach) (c : Cfg) : List Nat :=
  if c.whole || (left M c).isNone then []
  else if c.head == [] && !c.sts.isEmpty && closes M c && dearer M c then [41]
  else match cheap M c c.head with
    | none => []
    | some b => hintB M c b
structure WF (M : Mach) (c : Cfg) : Prop where
  sg0 : colon c.head = false → c.sg = 0
  sg60 : c.sg ≤ 60
  wh : c.whole = true → c.sts = [] ∧ c.head = []
  hd : c.whole = false → c.head ≠ [] → ∃ ls ∈ M.starts, pre c.head ls.1 = true ∧ (g (KC M c.sts) ls.2).isSome = true
  top : ∀ p r, c.sts = p :: r → (g (KC M r) p).isSome = true
theorem wf_init : WF M init := ⟨fun _ => rfl, Nat.zero_le _, fun h => (nomatch h), fun _ h => absurd rfl h, fun _ _ h => (nomatch h)⟩
theorem state0_some (o : M.Ok) {h : List Nat} {s : Nat} (e : state0 M h = some s) : (h, s) ∈ M.starts := by
  unfold state0 at e
  cases ef : M.starts.find? fun ls => ls.1 == h with
  | none => rw [ef] at e; cases e
  | some ls =>
    rw [ef] at e
    have h1 := List.mem_of_find?_eq_some ef
    have h2 := List.find?_some ef
    have h2 : ls.1 = h := by simpa using h2
    have h3 : ls.2 = s := Option.some.inj e
    rw [← h2, ← h3]
    exact h1
theorem nodup_snd {l : List (List Nat × Nat)} (nd : (l.map (·.1)).Nodup) {h : List Nat} {s t : Nat} (h1 : (h, s) ∈ l) (h2 : (h, t) ∈ l) : s = t := by
  induction l with
  | nil => cases h1
  | cons a r ih =>
    rw [List.map_cons, List.nodup_cons] at nd
    rcases List.mem_cons.mp h1 with e1 | h1
    · rcases List.mem_cons.mp h2 with e2 | h2
      · rw [← e1] at e2
        cases e2
        rfl
      · rw [← e1] at nd
        exact absurd (List.mem_map.mpr ⟨_, h2, rfl⟩) nd.1
    · rcases List.mem_cons.mp h2 with e2 | h2
      · rw [← e2] at nd
        exact absurd (List.mem_map.mpr ⟨_, h1, rfl⟩) nd.1
      · exact ih nd.2 h1 h2
theorem state0_of (o : M.Ok) {h : List Nat} {s : Nat} (m : (h, s) ∈ M.starts) : state0 M h = some s := by
  cases e : state0 M h with
  | none =>
    unfold state0 at e
    rw [Option.map_eq_none_iff, List.find?_eq_none] at e
    exact absurd (by simp) (e _ m)
  | some t => rw [nodup_snd o.snd m (state0_some o e)]
theorem starts_ne (o : M.Ok) {l : List Nat} {s : Nat} (m : (l, s) ∈ M.starts) : l ≠ [] := fun e => by
  have := lab_len (o.sl l s m).1
  rw [e] at this
  simp at this
/-- a label's signs -/
theorem lab_sign {l : List Nat} (o : LabOk l) {c : Nat} (h : c ∈ l) : c ∈ smalls ∨ c = 58 := by
  obtain ⟨t, b, rfl, _, _, ht⟩ := o
  rcases List.mem_append.mp h with h | h
  · exact .inl (ht c h)
  · cases b with
    | false => cases h
    | true => exact .inr (by simpa using h)
theorem cheap_pos {c : Cfg} {h : List Nat} {m : Nat} {x : List Nat} (e : cheap M c h = some (m, x)) : 1 ≤ m := by
  obtain ⟨⟨s, _, hc⟩, _⟩ := cheap_some e
  obtain ⟨k, hp, _, rfl⟩ := cost1_some hc
  have := pre_len hp
  omega
/-- where the head is no whole label, the extra sign does not hang on the signs taken -/
theorem extra_ne {l h : List Nat} {sg : Nat} (e : h ≠ l) : extra l h sg = if colon l then 1 else 0 := by
  unfold extra
  have : (h != l) = true := by simpa using e
  rw [this, Bool.true_or, Bool.and_true]
theorem extra_le (l h : List Nat) (sg : Nat) : extra l h sg ≤ 1 := by
  unfold extra
  split <;> omega
theorem not_colon_of_pre {l h : List Nat} (o : LabOk l) (hp : pre h l = true) (ne : h ≠ l) : colon h = false := by
  cases e : colon h with
  | false => rfl
  | true =>
    obtain ⟨r, rfl⟩ := pre_iff.mp hp
    have := lab_colon o rfl e
    subst this
    exact absurd (by simp) ne
theorem pre_next {l h : List Nat} (hp : pre h l = true) (ne : h ≠ l) : ∃ x, l[h.length]? = some x ∧ pre (h ++ [x]) l = true ∧ x ∈ l := by
  obtain ⟨r, rfl⟩ := pre_iff.mp hp
  cases r with
  | nil => exact absurd (by simp) ne
  | cons x r =>
    refine ⟨x, by simp, pre_iff.mpr ⟨r, by simp⟩, by simp⟩
theorem pre_back {l h : List Nat} {x : Nat} (hp : pre (h ++ [x]) l = true) : pre h l = true ∧ h ≠ l := by
  obtain ⟨r, rfl⟩ := pre_iff.mp hp
  refine ⟨pre_iff.mpr ⟨x :: r, by simp⟩, fun e => ?_⟩
  have := congrArg List.length e
  simp at this
/-- one sign more of a label: one sign fewer left -/
theorem cost_snoc {X : Ar} {sg sg' : Nat} {h : List Nat} {x : Nat} {ls : List Nat × Nat} {k : Nat} (hs : colon (h ++ [x]) = true → sg' = 0) (hl : LabOk ls.1) (e : cost1 X sg' (h ++ [x]) ls = some k) : cost1 X sg h ls = some (k + 1) := by
  obtain ⟨a, hp, ha, rfl⟩ := cost1_some e
  obtain ⟨hp', ne⟩ := pre_back hp
  rw [cost1_of hp' ha, extra_ne ne]
  have hlen := pre_len hp
  have q : extra ls.1 (h ++ [x]) sg' = if colon ls.1 then 1 else 0 := by
    by_cases e2 : h ++ [x] = ls.1
    · cases ec : colon (h ++ [x]) with
      | false =>
        rw [e2] at ec
        unfold extra
        rw [ec]
        rfl
      | true =>
        have := hs ec
        subst this
        unfold extra
        rw [← e2, ec]
        simp
    · exact extra_ne e2
  rw [q]
  rw [List.length_append, List.length_singleton] at hlen ⊢
  congr 1
  split <;> omega
theorem cost_snoc' {X : Ar} {sg sg' : Nat} {h : List Nat} {x : Nat} {ls : List Nat × Nat} {k : Nat} (hs : colon (h ++ [x]) = true → sg' = 0) (hl : LabOk ls.1) (hp : pre (h ++ [x]) ls.1 = true) (e : cost1 X sg h ls = some k) :
    ∃ k', k = k' + 1 ∧ cost1 X sg' (h ++ [x]) ls = some k' := by
  obtain ⟨a, _, ha, _⟩ := cost1_some e
  have q := cost1_of (sg := sg') hp ha
  have q2 := cost_snoc (sg := sg) hs hl q
  rw [e] at q2
  exact ⟨_, Option.some.inj q2, q⟩
theorem cheap_snoc (o : M.Ok) {c c' : Cfg} {x m : Nat} {l : List Nat} (hsts : c'.sts = c.sts) (hs : colon (c.head ++ [x]) = true → c'.sg = 0) (e : cheap M c c.head = some (m, l)) (hp : pre (c.head ++ [x]) l = true) :
    ∃ l', cheap M c' (c.head ++ [x]) = some (m - 1, l') := by
  obtain ⟨⟨s, hm, hc⟩, hmin⟩ := cheap_some e
  obtain ⟨k', rfl, hc'⟩ := cost_snoc' (sg' := c'.sg) hs (o.sl l s hm).1 hp hc
  rw [← hsts] at hc'
  obtain ⟨m2, l2, e2, le⟩ := cheap_is hm hc'
  refine ⟨l2, ?_⟩
  rw [e2]
  obtain ⟨⟨s2, hm2, hc2⟩, _⟩ := cheap_some e2
  have q := cost_snoc (sg := c.sg) hs (o.sl l2 s2 hm2).1 hc2
  rw [hsts] at q
  have := hmin _ hm2 _ q
  congr 2
  omega
/-- the label's cost by the prices -/
theorem cost_nil {X : Ar} {sg : Nat} {ls : List Nat × Nat} {k : Nat} (hl : LabOk ls.1) (hk : g X ls.2 = some k) : cost1 X sg [] ls = some (k + price ls.1 - 1) := by
  have ne : ([] : List Nat) ≠ ls.1 := fun e => by
    have := lab_len hl
    rw [← e] at this
    simp at this
  rw [cost1_of (pre_iff.mpr ⟨ls.1, rfl⟩) hk, extra_ne ne]
  unfold price
  congr 1
  simp only [List.length_nil]
  split <;> omega
/-- in an open node nothing is cheaper than what is told to be left -/
theorem left_le_best (o : M.Ok) {c : Cfg} {p m b : Nat} {r l : List Nat} (hs : c.sts = p :: r) (hk : g (KC M r) p = some m) (e : cheap M c [] = some (b, l)) : m ≤ b := by
  obtain ⟨⟨s, hm, hc⟩, _⟩ := cheap_some e
  obtain ⟨k, _, hk2, _⟩ := cost1_some hc
  rw [cost_nil (o.sl l s hm).1 hk2] at hc
  have hb : k + price l - 1 = b := Option.some.inj hc
  rw [hs] at hk2
  obtain ⟨a, ha, la⟩ := price_start o hm
  obtain ⟨q, b1, a1, h1, h2, l1⟩ := kid_le o k s a hk2 ha
  have rp := K_rng o hk
  obtain ⟨c1, h3, l3⟩ := K_step o rp.1 rp.2 h1 h2
  rw [hk] at h3
  cases h3
  omega
/-- where closing does not reach it, some label does -/
theorem best_le_left (o : M.Ok) {c : Cfg} {p m : Nat} {r : List Nat} (hs : c.sts = p :: r) (hk : g (KC M r) p = some m) : (∃ d, g (cl M r) p = some d ∧ d + 1 = m) ∨ ∃ l, cheap M c [] = some (m, l) := by
  rcases (K_inv o r).att p m hk with ⟨d, hd, l⟩ | ⟨q, a, b, hq, hb, l⟩
  · obtain ⟨c1, h1, l1⟩ := K_close o hd
    rw [hk] at h1
    cases h1
    exact .inl ⟨d, hd, by omega⟩
  · right
    have rq := price_rng o hq
    have hd : g (cl M (p :: r)) q = some b := by rw [cl_cons, g_stepD _ _ rq.2.2]; exact hb
    obtain ⟨c1, h1, l1⟩ := K_close o hd
    obtain ⟨x, s', c', hx, hc', l'⟩ := lab_le o a q c1 hq h1
    have hc2 : cost1 (KC M c.sts) c.sg [] (x, s') = some (c' + price x - 1) := cost_nil (o.sl x s' hx).1 (by rw [hs]; exact hc')
    obtain ⟨m2, x2, e2, l2⟩ := cheap_is hx hc2
    have := left_le_best o hs hk e2
    have px := lab_len (o.sl x s' hx).1
    have : m2 = m := by
      have : 1 ≤ price x := by unfold price; omega
      omega
    subst this
    exact ⟨x2, e2⟩
end Wd
namespace Wd
variable {M : Mach}
/-! ### taking keeps the reader well formed; hints -/
theorem take_open (M : Mach) (c : Cfg) : take M c 40 = ⟨(state0 M c.head).getD 0 :: c.sts, [], 0, c.whole⟩ := rfl
theorem take_colon {c : Cfg} {x : Nat} (h : colon c.head = true) (h1 : x ≠ 40) (h2 : x ≠ 41) : take M c x = ⟨c.sts, c.head, c.sg + 1, c.whole⟩ := by
  unfold take
  rw [if_neg h1, if_neg h2, if_pos h]
theorem take_head {c : Cfg} {x : Nat} (h : colon c.head = false) (h1 : x ≠ 40) (h2 : x ≠ 41) : take M c x = ⟨c.sts, c.head ++ [x], c.sg, c.whole⟩ := by
  unfold take
  rw [if_neg h1, if_neg h2, if_neg (by rw [h]; exact Bool.false_ne_true)]
theorem take_close1 {c : Cfg} {p : Nat} (h : c.sts = [p]) : take M c 41 = ⟨[], c.head, c.sg, true⟩ := by
  unfold take
  rw [if_neg (by decide), if_pos rfl, h]
theorem take_close2 {c : Cfg} {q p : Nat} {r : List Nat} (h : c.sts = q :: p :: r) : take M c 41 = ⟨M.st p q :: r, c.head, c.sg, false⟩ := by
  unfold take
  rw [if_neg (by decide), if_pos rfl, h]
theorem colon_ne {h : List Nat} (e : colon h = true) : h ≠ [] := fun z => by
  subst z
  cases e
/-- the ways in which a sign fits -/
theorem fits_cases {c : Cfg} {x : Nat} (f : fits M c x = true) : c.whole = false ∧
    ((colon c.head = true ∧ x = 40 ∧ 0 < c.sg) ∨ (colon c.head = true ∧ x ≠ 40 ∧ x ∈ wsigns ∧ c.sg < 60) ∨ (colon c.head = false ∧ x = 40 ∧ opens M c = true) ∨
     (colon c.head = false ∧ x = 41 ∧ c.head = [] ∧ closes M c = true) ∨ (colon c.head = false ∧ x ≠ 40 ∧ x ≠ 41 ∧ (x ∈ smalls ∨ x = 58) ∧ (cheap M c (c.head ++ [x])).isSome = true)) := by
  unfold fits at f
  cases hw : c.whole with
  | true => rw [hw] at f; cases f
  | false =>
    rw [hw] at f
    refine ⟨rfl, ?_⟩
    simp only [Bool.false_eq_true, if_false] at f
    cases hc : colon c.head with
    | true =>
      rw [hc] at f
      simp only [if_true] at f
      by_cases hx : x = 40
      · rw [if_pos hx] at f
        exact .inl ⟨rfl, hx, of_decide_eq_true f⟩
      · rw [if_neg hx] at f
        simp only [Bool.and_eq_true, decide_eq_true_eq] at f
        exact .inr (.inl ⟨rfl, hx, f.1, f.2⟩)
    | false =>
      rw [hc] at f
      simp only [Bool.false_eq_true, if_false] at f
      by_cases hx : x = 40
      · rw [if_pos hx] at f
        exact .inr (.inr (.inl ⟨rfl, hx, f⟩))
      · rw [if_neg hx] at f
        by_cases hy : x = 41
        · rw [if_pos hy] at f
          simp only [Bool.and_eq_true, beq_iff_eq] at f
          exact .inr (.inr (.inr (.inl ⟨rfl, hy, f.1, f.2⟩)))
        · rw [if_neg hy] at f
          simp only [Bool.and_eq_true, Bool.or_eq_true, decide_eq_true_eq, beq_iff_eq] at f
          exact .inr (.inr (.inr (.inr ⟨rfl, hx, hy, f.1, f.2⟩)))
theorem fits_word {c : Cfg} {x : Nat} (hw : c.whole = false) (hc : colon c.head = true) (h1 : x ≠ 40) (h2 : x ∈ wsigns) (h3 : c.sg < 60) : fits M c x = true := by
  unfold fits
  rw [hw, hc, if_neg Bool.false_ne_true, if_pos rfl, if_neg h1, decide_eq_true h2, decide_eq_true h3]
  rfl
theorem fits_openW {c : Cfg} (hw : c.whole = false) (hc : colon c.head = true) (h3 : 0 < c.sg) : fits M c 40 = true := by
  unfold fits
  rw [hw, hc, if_neg Bool.false_ne_true, if_pos rfl, if_pos rfl, decide_eq_true h3]
theorem fits_open {c : Cfg} (hw : c.whole = false) (hc : colon c.head = false) (h3 : opens M c = true) : fits M c 40 = true := by
  unfold fits
  rw [hw, hc, if_neg Bool.false_ne_true, if_neg Bool.false_ne_true, if_pos rfl, h3]
theorem fits_close {c : Cfg} (hw : c.whole = false) (hh : c.head = []) (h3 : closes M c = true) : fits M c 41 = true := by
  unfold fits
  rw [hw, hh, colon_nil, if_neg Bool.false_ne_true, if_neg Bool.false_ne_true, if_neg (by decide), if_pos rfl, h3]
  rfl
theorem fits_head {c : Cfg} {x : Nat} (hw : c.whole = false) (hc : colon c.head = false) (h1 : x ≠ 40) (h2 : x ≠ 41) (hx : x ∈ smalls ∨ x = 58) (h3 : (cheap M c (c.head ++ [x])).isSome = true) : fits M c x = true := by
  unfold fits
  rw [hw, hc, if_neg Bool.false_ne_true, if_neg Bool.false_ne_true, if_neg h1, if_neg h2, h3, Bool.and_true]
  simp only [Bool.or_eq_true, decide_eq_true_eq, beq_iff_eq]
  exact hx
theorem opens_some {c : Cfg} (h : opens M c = true) : ∃ s k, state0 M c.head = some s ∧ g (KC M c.sts) s = some k := by
  unfold opens at h
  cases e : state0 M c.head with
  | none => rw [e] at h; cases h
  | some s =>
    rw [e] at h
    obtain ⟨k, hk⟩ := Option.isSome_iff_exists.mp h
    exact ⟨s, k, rfl, hk⟩
theorem opens_of {c : Cfg} {s k : Nat} (h1 : state0 M c.head = some s) (h2 : g (KC M c.sts) s = some k) : opens M c = true := by
  unfold opens
  rw [h1]
  show (g (KC M c.sts) s).isSome = true
  rw [h2]
  rfl
/-- a head that ends with a colon is a label whose ending is known -/
theorem colon_lab (o : M.Ok) {c : Cfg} (w : WF M c) (hw : c.whole = false) (hc : colon c.head = true) : ∃ s k, (c.head, s) ∈ M.starts ∧ state0 M c.head = some s ∧ g (KC M c.sts) s = some k := by
  obtain ⟨⟨l, s⟩, hm, hp, hk⟩ := w.hd hw (colon_ne hc)
  obtain ⟨r, e⟩ := pre_iff.mp hp
  have := lab_colon (o.sl l s hm).1 e hc
  rw [this, List.append_nil] at e
  have e : l = c.head := e
  subst e
  obtain ⟨k, hk⟩ := Option.isSome_iff_exists.mp hk
  exact ⟨s, k, hm, state0_of o hm, hk⟩
theorem wf_take (o : M.Ok) {c : Cfg} {x : Nat} (w : WF M c) (f : fits M c x = true) : WF M (take M c x) := by
  obtain ⟨hw, h⟩ := fits_cases f
  have openOk : ∀ s k, state0 M c.head = some s → g (KC M c.sts) s = some k → WF M (take M c 40) := fun s k e1 e2 => by
    rw [take_open, e1]
    refine ⟨fun _ => rfl, Nat.zero_le _, fun h => ?_, fun _ h => absurd rfl h, fun p r e => ?_⟩
    · have h : c.whole = true := h
      rw [hw] at h; cases h
    · have e : s :: c.sts = p :: r := e
      cases e
      rw [e2]
      rfl
  rcases h with ⟨hc, rfl, hs⟩ | ⟨hc, h1, h2, h3⟩ | ⟨hc, rfl, ho⟩ | ⟨hc, rfl, hh, hcl⟩ | ⟨hc, h1, h2, hx, h3⟩
  · obtain ⟨s, k, _, e1, e2⟩ := colon_lab o w hw hc
    exact openOk s k e1 e2
  · rw [take_colon hc h1 (wsign_ne h2).2.1]
    refine ⟨fun z => ?_, by show c.sg + 1 ≤ 60; omega, fun z => ?_, w.hd, w.top⟩
    · have z : colon c.head = false := z
      rw [hc] at z; cases z
    · have z : c.whole = true := z
      rw [hw] at z; cases z
  · obtain ⟨s, k, e1, e2⟩ := opens_some ho
    exact openOk s k e1 e2
  · have s0 := w.sg0 hc
    cases hs : c.sts with
    | nil => unfold closes at hcl; rw [hs] at hcl; cases hcl
    | cons q r =>
      have hq : (g (cl M r) q).isSome = true := by
        unfold closes at hcl; rw [hs] at hcl; exact hcl
      cases r with
      | nil =>
        rw [take_close1 hs]
        exact ⟨fun _ => s0, by show c.sg ≤ 60; omega, fun _ => ⟨rfl, hh⟩, fun z => (nomatch z), fun _ _ z => (nomatch z)⟩
      | cons p r =>
        rw [take_close2 hs]
        have rq : q < M.n := by
          obtain ⟨k, hk⟩ := Option.isSome_iff_exists.mp (w.top q (p :: r) hs)
          exact (K_rng o hk).2
        refine ⟨fun _ => s0, by show c.sg ≤ 60; omega, fun z => (nomatch z), fun _ z => absurd hh z, fun p' r' e => ?_⟩
        have e : M.st p q :: r = p' :: r' := e
        cases e
        rw [cl_cons, g_stepD _ _ rq] at hq
        exact hq
  · have s0 := w.sg0 hc
    rw [take_head hc h1 h2]
    refine ⟨fun _ => s0, w.sg60, fun z => ?_, fun _ _ => ?_, w.top⟩
    · have z : c.whole = true := z
      rw [hw] at z; cases z
    · obtain ⟨⟨m, l⟩, e⟩ := Option.isSome_iff_exists.mp h3
      obtain ⟨⟨s, hm, hcost⟩, _⟩ := cheap_some e
      obtain ⟨k, hp, hk, _⟩ := cost1_some hcost
      exact ⟨(l, s), hm, hp, by show (g (KC M c.sts) s).isSome = true; rw [hk]; rfl⟩
/-- behind a taken sign the reader is never as at first -/
theorem take_ne (o : M.Ok) {c : Cfg} {x : Nat} (f : fits M c x = true) : (take M c x).whole = true ∨ (take M c x).sts ≠ [] ∨ (take M c x).head ≠ [] := by
  obtain ⟨hw, h⟩ := fits_cases f
  rcases h with ⟨hc, rfl, hs⟩ | ⟨hc, h1, h2, h3⟩ | ⟨hc, rfl, ho⟩ | ⟨hc, rfl, hh, hcl⟩ | ⟨hc, h1, h2, hx, h3⟩
  · exact .inr (.inl (List.cons_ne_nil _ _))
  · rw [take_colon hc h1 (wsign_ne h2).2.1]
    exact .inr (.inr (colon_ne hc))
  · exact .inr (.inl (List.cons_ne_nil _ _))
  · cases hs : c.sts with
    | nil => unfold closes at hcl; rw [hs] at hcl; cases hcl
    | cons q r =>
      cases r with
      | nil => rw [take_close1 hs]; exact .inl rfl
      | cons p r => rw [take_close2 hs]; exact .inr (.inl (List.cons_ne_nil _ _))
  · rw [take_head hc h1 h2]
    exact .inr (.inr (by simp))
theorem left_whole {c : Cfg} (h : c.whole = true) : left M c = some 0 := by
  unfold left
  rw [if_pos h]
theorem left_open {c : Cfg} {p : Nat} {r : List Nat} (h : c.whole = false) (hh : c.head = []) (hs : c.sts = p :: r) : left M c = g (KC M r) p := by
  unfold left
  rw [h, hh, hs]
  rfl
theorem left_head {c : Cfg} (h : c.whole = false) (hh : c.head ≠ [] ∨ c.sts = []) : left M c = (cheap M c c.head).map (·.1) := by
  obtain ⟨sts, head, sg, whole⟩ := c
  cases h
  cases head with
  | nil =>
    rcases hh with z | z
    · exact absurd rfl z
    · cases z
      rfl
  | cons x r => rfl
theorem left_zero (o : M.Ok) {c : Cfg} (w : WF M c) (h : left M c = some 0) : c.whole = true := by
  cases hw : c.whole with
  | true => rfl
  | false =>
    exfalso
    by_cases hh : c.head ≠ [] ∨ c.sts = []
    · rw [left_head hw hh] at h
      obtain ⟨⟨m, l⟩, e, q⟩ := Option.map_eq_some_iff.mp h
      have := cheap_pos e
      have q : m = 0 := q
      omega
    · have h1 : c.head = [] := Classical.byContradiction fun z => hh (.inl z)
      cases hs : c.sts with
      | nil => exact hh (.inr hs)
      | cons p r =>
        rw [left_open hw h1 hs] at h
        have := (K_inv o r).pos p 0 h
        omega
theorem left_none (o : M.Ok) {c : Cfg} (w : WF M c) (h : left M c = none) : c.whole = false ∧ c.sts = [] ∧ c.head = [] := by
  cases hw : c.whole with
  | true => rw [left_whole hw] at h; cases h
  | false =>
    refine ⟨rfl, ?_⟩
    by_cases h1 : c.head = []
    · refine ⟨?_, h1⟩
      cases hs : c.sts with
      | nil => rfl
      | cons p r =>
        rw [left_open hw h1 hs] at h
        have := w.top p r hs
        rw [h] at this
        cases this
    · exfalso
      rw [left_head hw (.inl h1)] at h
      have e := Option.map_eq_none_iff.mp h
      obtain ⟨ls, hm, hp, hk⟩ := w.hd hw h1
      obtain ⟨k, hk⟩ := Option.isSome_iff_exists.mp hk
      have := cheap_none e ls hm
      rw [cost1_of hp hk] at this
      cases this
theorem hintB_ok (o : M.Ok) {c : Cfg} {m : Nat} {l : List Nat} (w : WF M c) (hw : c.whole = false) (e : cheap M c c.head = some (m + 1, l)) :
    ∃ x, hintB M c (m + 1, l) = [x] ∧ fits M c x = true ∧ left M (take M c x) = some m := by
  obtain ⟨⟨s, hm, hc⟩, hmin⟩ := cheap_some e
  obtain ⟨k, hp, hk, hcost⟩ := cost1_some hc
  have hl := (o.sl l s hm).1
  have hp : pre c.head l = true := hp
  have hk : g (KC M c.sts) s = some k := hk
  by_cases ne : c.head = l
  · have hb : hintB M c (m + 1, l) = if colon c.head && c.sg == 0 then [97] else [40] := by
      unfold hintB
      rw [if_neg (by simpa using ne)]
    rw [hb]
    have hcost : m + 1 = k + l.length - c.head.length + 1 + extra l c.head c.sg := hcost
    rw [ne] at hcost
    cases hz : (colon c.head && c.sg == 0) with
    | true =>
      obtain ⟨z1, z2⟩ := Bool.and_eq_true_iff.mp hz
      have z2 : c.sg = 0 := by simpa using z2
      refine ⟨97, rfl, fits_word hw z1 (by decide) (by decide) (by omega), ?_⟩
      rw [take_colon z1 (by decide) (by decide)]
      rw [left_head (c := ⟨c.sts, c.head, c.sg + 1, c.whole⟩) hw (.inl (colon_ne z1))]
      have ex : extra l l c.sg = 1 := by
        unfold extra
        rw [← ne, z1, z2]
        simp
      have ex' : extra l c.head (c.sg + 1) = 0 := by
        unfold extra
        rw [← ne]
        simp
      have hc' : cost1 (KC M (⟨c.sts, c.head, c.sg + 1, c.whole⟩ : Cfg).sts) (⟨c.sts, c.head, c.sg + 1, c.whole⟩ : Cfg).sg c.head (l, s) = some m := by
        refine Eq.trans (cost1_of hp hk) ?_
        show some (k + l.length - c.head.length + 1 + extra l c.head (c.sg + 1)) = some m
        rw [ex', ne]
        congr 1
        omega
      obtain ⟨m2, x2, e2, l2⟩ := cheap_is hm hc'
      obtain ⟨⟨s2, hm2, hc2⟩, _⟩ := cheap_some e2
      obtain ⟨k2, hp2, hk2, _⟩ := cost1_some hc2
      obtain ⟨r2, e3⟩ := pre_iff.mp hp2
      have := lab_colon (o.sl x2 s2 hm2).1 e3 z1
      rw [this, List.append_nil] at e3
      have e3 : x2 = c.head := e3
      rw [e3, ne] at hm2
      have es := nodup_snd o.snd hm hm2
      rw [e3, ne, ← es] at hc2
      rw [ne] at hc'
      have hc' := hc'.symm.trans (show _ = some m2 from hc2)
      show (cheap M ⟨c.sts, c.head, c.sg + 1, c.whole⟩ c.head).map (·.1) = some m
      rw [e2]
      exact hc'.symm
    | false =>
      have ex : extra l l c.sg = 0 := by
        unfold extra
        rw [ne] at hz
        rw [show (l != l) = false by simp, Bool.false_or, hz]
        rfl
      rw [ex] at hcost
      have hkm : k = m := by omega
      subst hkm
      have hs0 : state0 M c.head = some s := by rw [ne]; exact state0_of o hm
      refine ⟨40, rfl, ?_, ?_⟩
      · cases z1 : colon c.head with
        | true =>
          rw [z1] at hz
          exact fits_openW hw z1 (by simp at hz; omega)
        | false => exact fits_open hw z1 (opens_of hs0 hk)
      · rw [take_open, hs0]
        exact (left_open (c := ⟨s :: c.sts, [], 0, c.whole⟩) hw rfl rfl).trans hk
  · obtain ⟨x, hx, hpx, hmem⟩ := pre_next hp ne
    have nc := not_colon_of_pre hl hp ne
    have s0 := w.sg0 nc
    have hb : hintB M c (m + 1, l) = [x] := by
      unfold hintB
      rw [if_pos (by simpa using ne)]
      show (match l[c.head.length]? with | some x => [x] | none => []) = [x]
      rw [hx]
    have sx := lab_sign hl hmem
    have x1 : x ≠ 40 := by
      rcases sx with z | z
      · exact (small_ne z).1
      · omega
    have x2 : x ≠ 41 := by
      rcases sx with z | z
      · exact (small_ne z).2.1
      · omega
    refine ⟨x, hb, ?_, ?_⟩
    · obtain ⟨l', e'⟩ := cheap_snoc o (c' := c) rfl (fun _ => s0) e hpx
      exact fits_head hw nc x1 x2 sx (by rw [e']; rfl)
    · rw [take_head nc x1 x2, left_head (c := ⟨c.sts, c.head ++ [x], c.sg, c.whole⟩) hw (.inl (by simp))]
      obtain ⟨l', e'⟩ := cheap_snoc o (c := c) (c' := ⟨c.sts, c.head ++ [x], c.sg, c.whole⟩) rfl (fun _ => s0) e hpx
      show (cheap M ⟨c.sts, c.head ++ [x], c.sg, c.whole⟩ (c.head ++ [x])).map (·.1) = some m
      rw [e']
      rfl
theorem hint_ok (o : M.Ok) {c : Cfg} {m : Nat} (w : WF M c) (hl : left M c = some (m + 1)) : ∃ x, hint M c = [x] ∧ fits M c x = true ∧ left M (take M c x) = some m := by
  have hw : c.whole = false := by
    cases hw : c.whole with
    | false => rfl
    | true => rw [left_whole hw] at hl; cases hl
  have h0 : ¬ (c.whole || (left M c).isNone) = true := by rw [hw, hl]; exact Bool.false_ne_true
  by_cases hh : c.head ≠ [] ∨ c.sts = []
  · have e1 : ¬ (c.head == [] && !c.sts.isEmpty && closes M c && dearer M c) = true := by
      rcases hh with z | z
      · have : (c.head == []) = false := by simpa using z
        rw [this]
        simp
      · rw [z]
        simp
    have hl' := hl
    rw [left_head hw hh] at hl'
    obtain ⟨⟨m', l⟩, e, q⟩ := Option.map_eq_some_iff.mp hl'
    have q : m' = m + 1 := q
    subst q
    obtain ⟨x, h1, h2, h3⟩ := hintB_ok o w hw e
    refine ⟨x, ?_, h2, h3⟩
    unfold hint
    rw [if_neg h0, if_neg e1, e]
    exact h1
  · have h1 : c.head = [] := Classical.byContradiction fun z => hh (.inl z)
    cases hs : c.sts with
    | nil => exact absurd (.inr hs) hh
    | cons p r =>
      have hk := hl
      rw [left_open hw h1 hs] at hk
      have useB : (∃ l, cheap M c [] = some (m + 1, l)) → ∃ x, hint M c = [x] ∧ fits M c x = true ∧ left M (take M c x) = some m := fun ⟨l, e⟩ => by
        have e' : cheap M c c.head = some (m + 1, l) := by rw [h1]; exact e
        obtain ⟨x, g1, g2, g3⟩ := hintB_ok o w hw e'
        refine ⟨x, ?_, g2, g3⟩
        unfold hint
        rw [if_neg h0, if_neg ?_, e']
        · exact g1
        · rw [dearer_some e', hl]
          simp
      rcases best_le_left o hs hk with ⟨d, hd, hdm⟩ | hB
      · have hcl : closes M c = true := by
          unfold closes
          rw [hs]
          show (g (cl M r) p).isSome = true
          rw [hd]
          rfl
        cases ec : cheap M c [] with
        | none =>
          refine ⟨41, ?_, fits_close hw h1 hcl, ?_⟩
          · unfold hint
            rw [if_neg h0, if_pos ?_]
            rw [dearer_none (by rw [h1]; exact ec), h1, hs, hcl]
            rfl
          · cases r with
            | nil =>
              rw [take_close1 hs, left_whole rfl]
              rw [cl_nil, g_goodD o] at hd
              split at hd
              · cases hd; congr 1; omega
              · cases hd
            | cons p' r' =>
              have rq := K_rng o hk
              rw [take_close2 hs]
              rw [cl_cons, g_stepD _ _ rq.2] at hd
              refine (left_open (c := ⟨M.st p' p :: r', c.head, c.sg, false⟩) rfl h1 rfl).trans ?_
              rw [hd]
              congr 1
              omega
        | some b =>
          obtain ⟨b, l⟩ := b
          have lb := left_le_best o hs hk ec
          by_cases hlt : m + 1 < b
          · refine ⟨41, ?_, fits_close hw h1 hcl, ?_⟩
            · unfold hint
              rw [if_neg h0, if_pos ?_]
              rw [dearer_some (by rw [h1]; exact ec), h1, hs, hcl, hl]
              simp [hlt]
            · cases r with
              | nil =>
                rw [take_close1 hs, left_whole rfl]
                rw [cl_nil, g_goodD o] at hd
                split at hd
                · cases hd; congr 1; omega
                · cases hd
              | cons p' r' =>
                have rq := K_rng o hk
                rw [take_close2 hs]
                rw [cl_cons, g_stepD _ _ rq.2] at hd
                refine (left_open (c := ⟨M.st p' p :: r', c.head, c.sg, false⟩) rfl h1 rfl).trans ?_
                rw [hd]
                congr 1
                omega
          · have : b = m + 1 := by omega
            subst this
            exact useB ⟨l, ec⟩
      · exact useB hB
theorem hint_whole {c : Cfg} (h : c.whole = true) : hint M c = [] := by
  unfold hint
  rw [h]
  rfl
theorem hint_none {c : Cfg} (h : left M c = none) : hint M c = [] := by
  unfold hint
  rw [h]
  simp
/-! ### runs -/
noncomputable def run (M : Mach) : Cfg → List Nat → Option Cfg
  | c, [] => some c
  | c, x :: r => if fits M c x then run M (take M c x) r else none
theorem run_app : ∀ (c : Cfg) (a b : List Nat), run M c (a ++ b) = (run M c a).bind fun d => run M d b
  | c, [], b => rfl
  | c, x :: a, b => by
    show (if fits M c x then run M (take M c x) (a ++ b) else none) = (if fits M c x then run M (take M c x) a else none).bind fun d => run M d b
    by_cases f : fits M c x = true
    · rw [if_pos f, if_pos f]
      exact run_app _ a b
    · rw [if_neg f, if_neg f]
      rfl
theorem run_snoc {c d : Cfg} {a : List Nat} {x : Nat} (h : run M c a = some d) (f : fits M d x = true) : run M c (a ++ [x]) = some (take M d x) := by
  rw [run_app, h]
  show (if fits M d x then some (take M d x) else none) = _
  rw [if_pos f]
theorem run_one {c : Cfg} {x : Nat} {r : List Nat} (f : fits M c x = true) : run M c (x :: r) = run M (take M c x) r := by
  show (if fits M c x then run M (take M c x) r else none) = _
  rw [if_pos f]
theorem run_wf (o : M.Ok) : ∀ (a : List Nat) (c d : Cfg), WF M c → run M c a = some d → WF M d
  | [], c, d, w, h => by
    cases h
    exact w
  | x :: a, c, d, w, h => by
    have h : (if fits M c x then run M (take M c x) a else none) = some d := h
    by_cases f : fits M c x = true
    · rw [if_pos f] at h
      exact run_wf o a _ d (wf_take o w f) h
    · rw [if_neg f] at h
      cases h
/-- a reader as at first has taken nothing -/
theorem run_init (o : M.Ok) {c : Cfg} {a : List Nat} (h : run M init a = some c) (h1 : c.whole = false) (h2 : c.sts = []) (h3 : c.head = []) : a = [] := by
  rcases List.eq_nil_or_concat a with e | ⟨b, x, e⟩
  · exact e
  · exfalso
    subst e
    rw [List.concat_eq_append, run_app] at h
    cases hb : run M init b with
    | none => rw [hb] at h; cases h
    | some d =>
      rw [hb] at h
      have h : (if fits M d x then some (take M d x) else none) = some c := h
      by_cases f : fits M d x = true
      · rw [if_pos f] at h
        cases h
        rcases take_ne o f with z | z | z
        · rw [h1] at z; cases z
        · exact z h2
        · exact z h3
      · rw [if_neg f] at h
        cases h
end Wd
namespace Wd
variable {M : Mach}
/-! ### trees, their texts and states -/
inductive Tr where
  | nd (tag word : List Nat) (kids : List Tr)
def lab (t w : List Nat) : List Nat := if w = [] then t else t ++ [58]
def wtext (w : List Nat) : List Nat := if w = [] then [] else 58 :: w
def s0 (M : Mach) (t w : List Nat) : Nat := (state0 M (lab t w)).getD 0
mutual
def Tr.state (M : Mach) : Tr → Nat
  | .nd t w ks => stateL M (s0 M t w) ks
def stateL (M : Mach) : Nat → List Tr → Nat
  | s, [] => s
  | s, k :: r => stateL M (M.st s (k.state M)) r
end
mutual
def Tr.text : Tr → List Nat
  | .nd t w ks => t ++ wtext w ++ [40] ++ textL ks ++ [41]
def textL : List Tr → List Nat
  | [] => []
  | k :: r => k.text ++ textL r
end
mutual
def Tr.nodes : Tr → Nat
  | .nd _ _ ks => nodesL ks + 1
def nodesL : List Tr → Nat
  | [] => 0
  | k :: r => k.nodes + nodesL r
end
mutual
def Tr.Ok : Tr → Prop
  | .nd t w ks => (1 ≤ t.length ∧ t.length ≤ 8 ∧ (∀ c ∈ t, c ∈ smalls)) ∧ (w.length ≤ 60 ∧ ∀ c ∈ w, c ∈ wsigns) ∧ OkL ks
def OkL : List Tr → Prop
  | [] => True
  | k :: r => k.Ok ∧ OkL r
end
theorem stateL_app (s : Nat) (a b : List Tr) : stateL M s (a ++ b) = stateL M (stateL M s a) b := by
  induction a generalizing s with
  | nil => simp [stateL]
  | cons k r ih => simp only [List.cons_append, stateL]; exact ih _
theorem nodesL_app (a b : List Tr) : nodesL (a ++ b) = nodesL a + nodesL b := by
  induction a with
  | nil => simp [nodesL]
  | cons k r ih => simp only [List.cons_append, nodesL, ih]; omega
theorem textL_app (a b : List Tr) : textL (a ++ b) = textL a ++ textL b := by
  induction a with
  | nil => simp [textL]
  | cons k r ih => simp only [List.cons_append, textL, ih, List.append_assoc]
theorem okL_app (a b : List Tr) : OkL (a ++ b) ↔ OkL a ∧ OkL b := by
  induction a with
  | nil => simp [OkL]
  | cons k r ih => simp only [List.cons_append, OkL, ih, and_assoc]
theorem stateL_zero (o : M.Ok) (ks : List Tr) : stateL M 0 ks = 0 := by
  induction ks with
  | nil => simp [stateL]
  | cons k r ih => simp only [stateL, o.z1]; exact ih
theorem stateL_ne (o : M.Ok) {s : Nat} {k : Tr} {r : List Tr} (h : stateL M s (k :: r) ≠ 0) : M.st s (k.state M) ≠ 0 ∧ k.state M ≠ 0 := by
  have h1 : M.st s (k.state M) ≠ 0 := fun e => by
    apply h
    simp only [stateL, e]
    exact stateL_zero o r
  refine ⟨h1, fun e => h1 ?_⟩
  rw [e]
  exact o.z2 s
theorem stateL_ne0 (o : M.Ok) {s : Nat} {ks : List Tr} (h : stateL M s ks ≠ 0) : s ≠ 0 := fun e => by
  rw [e] at h
  exact h (stateL_zero o ks)
theorem s0_some (o : M.Ok) {t w : List Nat} (h : s0 M t w ≠ 0) : state0 M (lab t w) = some (s0 M t w) ∧ (lab t w, s0 M t w) ∈ M.starts := by
  unfold s0 at h ⊢
  cases e : state0 M (lab t w) with
  | none => rw [e] at h; exact absurd rfl h
  | some s => exact ⟨rfl, state0_some o e⟩
mutual
theorem price_tree (o : M.Ok) : ∀ (t : Tr), t.state M ≠ 0 → ∃ a, g (prices M) (t.state M) = some a
  | .nd t w ks, h => by
    have h : stateL M (s0 M t w) ks ≠ 0 := by simpa only [Tr.state] using h
    have h0 := stateL_ne0 o h
    obtain ⟨a, ha, _⟩ := price_start o (s0_some o h0).2
    have := price_list o ks _ a ha h
    simpa only [Tr.state] using this
theorem price_list (o : M.Ok) : ∀ (ks : List Tr) (s a : Nat), g (prices M) s = some a → stateL M s ks ≠ 0 → ∃ b, g (prices M) (stateL M s ks) = some b
  | [], s, a, ha, _ => ⟨a, by simpa only [stateL] using ha⟩
  | k :: r, s, a, ha, h => by
    obtain ⟨h1, h2⟩ := stateL_ne o h
    obtain ⟨b, hb⟩ := price_tree o k h2
    obtain ⟨c, hc, _⟩ := price_step o ha hb h1
    have h' : stateL M (M.st s (k.state M)) r ≠ 0 := by simpa only [stateL] using h
    have := price_list o r _ c hc h'
    simpa only [stateL] using this
end
/-- where what the kids come to may be closed, the node may be opened -/
theorem K_list (o : M.Ok) {l : List Nat} : ∀ (ks : List Tr) (s : Nat), s < M.n → (g (cl M l) (stateL M s ks)).isSome = true → ∃ c, g (KC M l) s = some c
  | [], s, _, h => by
    have h : (g (cl M l) s).isSome = true := by simpa only [stateL] using h
    obtain ⟨d, hd⟩ := Option.isSome_iff_exists.mp h
    obtain ⟨c, hc, _⟩ := K_close o hd
    exact ⟨c, hc⟩
  | k :: r, s, hs, h => by
    have hne : stateL M s (k :: r) ≠ 0 := fun e => by
      rw [e, cl_zero o l] at h
      cases h
    obtain ⟨h1, h2⟩ := stateL_ne o hne
    have h0 := stateL_ne0 o hne
    obtain ⟨b, hb⟩ := price_tree o k h2
    have h' : (g (cl M l) (stateL M (M.st s (k.state M)) r)).isSome = true := by simpa only [stateL] using h
    obtain ⟨c1, hc1⟩ := K_list o r _ (o.st_lt _ _) h'
    obtain ⟨c, hc, _⟩ := K_step o (by omega) hs hb hc1
    exact ⟨c, hc⟩
/-! ### a reader goes through the text of an admitted tree -/
theorem run_head (o : M.Ok) {sts l : List Nat} {s k : Nat} (hm : (l, s) ∈ M.starts) (hk : g (KC M sts) s = some k) : ∀ (suf h : List Nat), l = h ++ suf → run M ⟨sts, h, 0, false⟩ suf = some ⟨sts, l, 0, false⟩
  | [], h, e => by
    rw [List.append_nil] at e
    subst e
    rfl
  | x :: suf, h, e => by
    have hl := (o.sl l s hm).1
    have hp : pre (h ++ [x]) l = true := pre_iff.mpr ⟨suf, by rw [e]; simp⟩
    obtain ⟨hp0, ne⟩ := pre_back hp
    have nc := not_colon_of_pre hl hp0 ne
    have sx := lab_sign hl (show x ∈ l by rw [e]; simp)
    have x1 : x ≠ 40 := by
      rcases sx with z | z
      · exact (small_ne z).1
      · omega
    have x2 : x ≠ 41 := by
      rcases sx with z | z
      · exact (small_ne z).2.1
      · omega
    obtain ⟨m, y, e2, _⟩ := cheap_is (c := ⟨sts, h, 0, false⟩) (h := h ++ [x]) hm (cost1_of hp hk)
    have f : fits M ⟨sts, h, 0, false⟩ x = true := fits_head rfl nc x1 x2 sx (by
      show (cheap M ⟨sts, h, 0, false⟩ (h ++ [x])).isSome = true
      rw [e2]
      rfl)
    rw [run_one f, take_head nc x1 x2]
    exact run_head o hm hk suf (h ++ [x]) (by rw [e]; simp)
theorem run_word {sts l : List Nat} (hc : colon l = true) : ∀ (w : List Nat) (n : Nat), n + w.length ≤ 60 → (∀ c ∈ w, c ∈ wsigns) → run M ⟨sts, l, n, false⟩ w = some ⟨sts, l, n + w.length, false⟩
  | [], n, _, _ => rfl
  | x :: w, n, hn, hw => by
    have hx := hw x List.mem_cons_self
    rw [List.length_cons] at hn
    have f : fits M ⟨sts, l, n, false⟩ x = true := fits_word rfl hc (wsign_ne hx).1 hx (by show n < 60; omega)
    rw [run_one f, take_colon hc (wsign_ne hx).1 (wsign_ne hx).2.1]
    have := run_word (sts := sts) hc w (n + 1) (by omega) (fun c h => hw c (List.mem_cons_of_mem _ h))
    rw [show n + 1 + w.length = n + (x :: w).length by rw [List.length_cons]; omega] at this
    exact this
theorem colon_lab1 {t w : List Nat} (h : ∀ c ∈ t, c ∈ smalls) : colon (lab t w) = !decide (w = []) := by
  unfold lab
  by_cases e : w = []
  · rw [if_pos e, decide_eq_true e]
    cases ec : colon t with
    | false => rfl
    | true =>
      exfalso
      unfold colon at ec
      rw [beq_iff_eq] at ec
      obtain ⟨t', rfl⟩ := List.getLast?_eq_some_iff.mp ec
      exact (small_ne (h 58 (by simp))).2.2 rfl
  · rw [if_neg e, decide_eq_false e, colon_snoc]
    rfl
theorem head_text (t w : List Nat) : t ++ wtext w = lab t w ++ w := by
  unfold wtext lab
  by_cases e : w = []
  · rw [if_pos e, if_pos e, e]
  · rw [if_neg e, if_neg e]
    simp
/-- the label, the word, the opening sign -/
theorem run_opened (o : M.Ok) {sts t w : List Nat} {k : Nat} (ht : ∀ c ∈ t, c ∈ smalls) (hw : w.length ≤ 60 ∧ ∀ c ∈ w, c ∈ wsigns) (hne : s0 M t w ≠ 0) (hk : g (KC M sts) (s0 M t w) = some k) :
    run M ⟨sts, [], 0, false⟩ (t ++ wtext w ++ [40]) = some ⟨s0 M t w :: sts, [], 0, false⟩ := by
  obtain ⟨e0, hm⟩ := s0_some o hne
  rw [head_text, run_app, run_app, run_head o hm hk (lab t w) [] rfl]
  show ((run M ⟨sts, lab t w, 0, false⟩ w).bind fun d => run M d [40]) = _
  have hc := colon_lab1 (w := w) ht
  by_cases e : w = []
  · rw [decide_eq_true e] at hc
    rw [e]
    show run M ⟨sts, lab t [], 0, false⟩ [40] = _
    have f : fits M ⟨sts, lab t [], 0, false⟩ 40 = true := fits_open rfl (by rw [e] at hc; exact hc) (opens_of (by rw [e] at e0; exact e0) (by rw [e] at hk; exact hk))
    rw [run_one f, take_open]
    rw [e] at e0
    show some (⟨(state0 M (lab t [])).getD 0 :: sts, [], 0, false⟩ : Cfg) = _
    rw [e0]
    rfl
  · rw [decide_eq_false e] at hc
    rw [run_word hc w 0 (by omega) hw.2]
    have hpos : 0 < w.length := List.length_pos_iff.mpr e
    have f : fits M ⟨sts, lab t w, 0 + w.length, false⟩ 40 = true := fits_openW rfl hc (by show 0 < 0 + w.length; omega)
    show run M ⟨sts, lab t w, 0 + w.length, false⟩ [40] = _
    rw [run_one f, take_open]
    show some (⟨(state0 M (lab t w)).getD 0 :: sts, [], 0, false⟩ : Cfg) = _
    rw [e0]
    rfl
def closed (M : Mach) (sts : List Nat) (q : Nat) : Cfg :=
  match sts with
  | [] => ⟨[], [], 0, true⟩
  | p :: r => ⟨M.st p q :: r, [], 0, false⟩
mutual
theorem run_tree (o : M.Ok) : ∀ (t : Tr) (sts : List Nat), t.Ok → (g (cl M sts) (t.state M)).isSome = true → run M ⟨sts, [], 0, false⟩ t.text = some (closed M sts (t.state M))
  | .nd t w ks, sts, hok, h => by
    simp only [Tr.Ok] at hok
    simp only [Tr.state] at h ⊢
    simp only [Tr.text]
    obtain ⟨⟨_, _, ht⟩, hw, hks⟩ := hok
    have hne : stateL M (s0 M t w) ks ≠ 0 := fun e => by
      rw [e, cl_zero o sts] at h
      cases h
    have hne0 := stateL_ne0 o hne
    have hm := (s0_some o hne0).2
    obtain ⟨k, hk⟩ := K_list o ks _ (o.sl _ _ hm).2.2 h
    rw [List.append_assoc, run_app, run_opened o ht hw hne0 hk]
    show run M ⟨s0 M t w :: sts, [], 0, false⟩ (textL ks ++ [41]) = _
    rw [run_app, run_trees o ks (s0 M t w) sts hks (o.sl _ _ hm).2.2 h]
    show run M ⟨stateL M (s0 M t w) ks :: sts, [], 0, false⟩ [41] = _
    have f : fits M ⟨stateL M (s0 M t w) ks :: sts, [], 0, false⟩ 41 = true := fits_close rfl rfl h
    rw [run_one f]
    cases sts with
    | nil => rfl
    | cons p r => rfl
theorem run_trees (o : M.Ok) : ∀ (ks : List Tr) (s : Nat) (sts : List Nat), OkL ks → s < M.n → (g (cl M sts) (stateL M s ks)).isSome = true → run M ⟨s :: sts, [], 0, false⟩ (textL ks) = some ⟨stateL M s ks :: sts, [], 0, false⟩
  | [], s, sts, _, _, _ => by simp only [textL, stateL]; rfl
  | k :: r, s, sts, hok, hs, h => by
    simp only [OkL] at hok
    simp only [stateL] at h ⊢
    simp only [textL]
    have hne : stateL M s (k :: r) ≠ 0 := fun e => by
      simp only [stateL] at e
      rw [e, cl_zero o sts] at h
      cases h
    obtain ⟨c, hc⟩ := K_list o r _ (o.st_lt s (k.state M)) h
    have hkn : k.state M < M.n := by
      obtain ⟨a, ha⟩ := price_tree o k (stateL_ne o hne).2
      exact (price_rng o ha).2.2
    rw [run_app, run_tree o k (s :: sts) hok.1 (by rw [cl_cons, g_stepD _ _ hkn, hc]; rfl)]
    show run M (closed M (s :: sts) (k.state M)) (textL r) = _
    exact run_trees o r _ sts hok.2 (o.st_lt _ _) h
end
/-- the law's first half: what goes on with an admitted tree's text fits -/
theorem fits_text (o : M.Ok) {t : Tr} (hok : t.Ok) (hg : t.state M ∈ M.good) {a : List Nat} {x : Nat} {r : List Nat} (e : t.text = a ++ x :: r) {c : Cfg} (hr : run M init a = some c) : fits M c x = true := by
  have h := run_tree o t [] hok (by rw [cl_nil, g_goodD o, if_pos hg]; rfl)
  rw [e] at h
  have h : run M init (a ++ x :: r) = some (closed M [] (t.state M)) := h
  rw [run_app, hr] at h
  have h : (if fits M c x then run M (take M c x) r else none) = some (closed M [] (t.state M)) := h
  by_cases f : fits M c x = true
  · exact f
  · rw [if_neg f] at h
    cases h
/-- where nothing is left to tell at first, no tree is admitted -/
theorem none_left (o : M.Ok) {t : Tr} (hok : t.Ok) (hl : left M init = none) : t.state M ∉ M.good := fun hg => by
  have hne : ∃ x r, t.text = x :: r := by
    cases t with
    | nd t w ks =>
      simp only [Tr.text]
      simp only [Tr.Ok] at hok
      cases t with
      | nil => simp at hok
      | cons x t => exact ⟨x, _, rfl⟩
  obtain ⟨x, r, e⟩ := hne
  have f := fits_text o hok hg (a := []) e (c := init) rfl
  obtain ⟨hw, h⟩ := fits_cases f
  have hl : (cheap M init []).map (·.1) = none := (left_head (c := init) rfl (.inr rfl)).symm.trans hl
  have hl := Option.map_eq_none_iff.mp hl
  have no : ∀ ls ∈ M.starts, g (KC M []) ls.2 = none := fun ls hm => by
    have := cheap_none hl ls hm
    cases e2 : g (KC M []) ls.2 with
    | none => rfl
    | some k =>
      have q := cost1_of (sg := 0) (h := []) (ls := ls) (X := KC M []) (pre_iff.mpr ⟨ls.1, rfl⟩) e2
      have this : cost1 (KC M []) 0 [] ls = none := this
      rw [this] at q
      cases q
  rcases h with ⟨hc, rfl, hs⟩ | ⟨hc, h1, h2, h3⟩ | ⟨hc, rfl, ho⟩ | ⟨hc, rfl, hh, hcl⟩ | ⟨hc, h1, h2, hx, h3⟩
  · cases hc
  · cases hc
  · obtain ⟨s, k, e1, e2⟩ := opens_some ho
    have := no _ (state0_some o e1)
    have e2 : g (KC M []) s = some k := e2
    rw [this] at e2
    cases e2
  · cases hcl
  · obtain ⟨⟨m, l⟩, e⟩ := Option.isSome_iff_exists.mp h3
    obtain ⟨⟨s, hm, hcost⟩, _⟩ := cheap_some e
    obtain ⟨k, _, hk, _⟩ := cost1_some hcost
    have := no _ hm
    have hk : g (KC M []) s = some k := hk
    rw [this] at hk
    cases hk
end Wd
namespace Wd
variable {M : Mach}
/-! ### the law's own parser -/
def part : List Nat → List Nat × List Nat × List Nat
  | [] => ([], [], [])
  | c :: r => if c = 58 then ([], [58], r) else (c :: (part r).1, (part r).2.1, (part r).2.2)
theorem part_app : ∀ {t : List Nat} (w : List Nat), 58 ∉ t → part (t ++ 58 :: w) = (t, [58], w)
  | [], w, _ => rfl
  | c :: t, w, h => by
    have h1 : c ≠ 58 := fun e => h (by rw [e]; exact List.mem_cons_self)
    have h2 : 58 ∉ t := fun e => h (List.mem_cons_of_mem _ e)
    show (if c = 58 then _ else (c :: (part (t ++ 58 :: w)).1, (part (t ++ 58 :: w)).2.1, (part (t ++ 58 :: w)).2.2)) = _
    rw [if_neg h1, part_app w h2]
theorem part_none : ∀ {t : List Nat}, 58 ∉ t → part t = (t, [], [])
  | [], _ => rfl
  | c :: t, h => by
    have h1 : c ≠ 58 := fun e => h (by rw [e]; exact List.mem_cons_self)
    have h2 : 58 ∉ t := fun e => h (List.mem_cons_of_mem _ e)
    show (if c = 58 then _ else (c :: (part t).1, (part t).2.1, (part t).2.2)) = _
    rw [if_neg h1, part_none h2]
theorem part_cases (h : List Nat) : (58 ∉ h ∧ part h = (h, [], [])) ∨ ∃ a b, h = a ++ 58 :: b ∧ 58 ∉ a ∧ part h = (a, [58], b) := by
  induction h with
  | nil => exact .inl ⟨by simp, rfl⟩
  | cons c r ih =>
    by_cases e : c = 58
    · subst e
      exact .inr ⟨[], r, rfl, by simp, rfl⟩
    · rcases ih with ⟨h1, h2⟩ | ⟨a, b, rfl, h1, h2⟩
      · have h3 : 58 ∉ c :: r := fun z => by
          rcases List.mem_cons.mp z with z | z
          · exact e z.symm
          · exact h1 z
        exact .inl ⟨h3, part_none h3⟩
      · have h3 : 58 ∉ c :: a := fun z => by
          rcases List.mem_cons.mp z with z | z
          · exact e z.symm
          · exact h1 z
        exact .inr ⟨c :: a, b, rfl, h3, part_app (t := c :: a) b h3⟩
def allIn (s l : List Nat) : Bool := l.all fun c => decide (c ∈ s)
def isHead (h : List Nat) : Bool :=
  if decide ((part h).1.length < 1) || decide (8 < (part h).1.length) || !allIn smalls (part h).1 then false
  else if (part h).2.1 = [] then true
  else (decide (1 ≤ (part h).2.2.length) && decide ((part h).2.2.length ≤ 60)) && allIn wsigns (part h).2.2
structure PS where
  rows : List (List Tr)
  heads : List (List Nat × List Nat × List Nat)
  head : List Nat
def pinit : PS := ⟨[[]], [], []⟩
def pstep1 (s : PS) (x : Nat) : Option PS :=
  if x = 40 then (if isHead s.head then some ⟨[] :: s.rows, part s.head :: s.heads, []⟩ else none)
  else if x = 41 then
    match s.head, s.heads, s.rows with
    | [], h :: hs, ks :: r :: rs => some ⟨(r ++ [Tr.nd h.1 h.2.2 ks]) :: rs, hs, []⟩
    | _, _, _ => none
  else some ⟨s.rows, s.heads, s.head ++ [x]⟩
/-- the check behind each sign -/
def pbad (s : PS) : Bool := s.heads.isEmpty && decide (0 < (s.rows.getLastD []).length) && (s.head != [] || decide (1 < (s.rows.getLastD []).length))
def pstep (s : PS) (x : Nat) : Option PS := (pstep1 s x).bind fun s' => if pbad s' then none else some s'
def prun : PS → List Nat → Option PS
  | s, [] => some s
  | s, x :: r => (pstep s x).bind fun s' => prun s' r
theorem prun_app : ∀ (a : List Nat) (s : PS) (b : List Nat), prun s (a ++ b) = (prun s a).bind fun s' => prun s' b
  | [], s, b => rfl
  | x :: a, s, b => by
    show (pstep s x).bind (fun s' => prun s' (a ++ b)) = ((pstep s x).bind fun s' => prun s' a).bind fun s' => prun s' b
    cases pstep s x with
    | none => rfl
    | some s' => exact prun_app a s' b
/-- the parser tells the tree t of a text -/
def Parsed (l : List Nat) (t : Tr) : Prop := prun pinit l = some ⟨[[t]], [], []⟩
/-! ### the reader and the parser -/
def RelS (M : Mach) : List Nat → List (List Tr) → List (List Nat × List Nat × List Nat) → Prop
  | [], rows, heads => rows = [[]] ∧ heads = []
  | s :: r, ks :: rows, h :: heads => s = stateL M (s0 M h.1 h.2.2) ks ∧ RelS M r rows heads
  | _ :: _, _, _ => False
structure Rel (M : Mach) (c : Cfg) (s : PS) : Prop where
  hd : ∃ w, s.head = c.head ++ w ∧ w.length = c.sg ∧ (∀ x ∈ w, x ∈ wsigns) ∧ (w ≠ [] → colon c.head = true)
  wh : c.whole = true → ∃ t, s.rows = [[t]] ∧ s.heads = [] ∧ t.state M ∈ M.good
  op : c.whole = false → RelS M c.sts s.rows s.heads
theorem rel_init : Rel M init pinit := ⟨⟨[], rfl, rfl, fun _ h => (nomatch h), fun h => absurd rfl h⟩, fun h => (nomatch h), fun _ => ⟨rfl, rfl⟩⟩
theorem relS_last : ∀ {sts : List Nat} {rows : List (List Tr)} {heads : List (List Nat × List Nat × List Nat)}, RelS M sts rows heads → rows.getLastD [] = []
  | [], rows, heads, h => by
    rw [h.1]
    rfl
  | s :: r, ks :: rows, hd :: heads, h => by
    have ih := relS_last h.2
    have hne : rows ≠ [] := by
      rcases r with _ | ⟨a, r⟩
      · rw [h.2.1]; simp
      · rcases rows with _ | ⟨b, rows⟩
        · exact h.2.elim
        · simp
    rcases rows with _ | ⟨b, rows⟩
    · exact absurd rfl hne
    · exact ih
theorem relS_heads {sts : List Nat} {rows : List (List Tr)} {heads : List (List Nat × List Nat × List Nat)} (h : RelS M sts rows heads) : rows.length = heads.length + 1 := by
  induction sts generalizing rows heads with
  | nil =>
    rw [h.1, h.2]
    rfl
  | cons s r ih =>
    cases rows with
    | nil => exact h.elim
    | cons ks rows =>
      cases heads with
      | nil => exact h.elim
      | cons hd heads =>
        have := ih h.2
        simp only [List.length_cons]
        omega
theorem pbad_open {c : Cfg} {s : PS} (h : RelS M c.sts s.rows s.heads) : pbad s = false := by
  unfold pbad
  rw [relS_last h]
  simp
/-- a label with the word behind it: what the parser makes of it -/
theorem part_lab {l w : List Nat} (o : LabOk l) (hw : w ≠ [] → colon l = true) (hw2 : colon l = true → w ≠ []) (hs : ∀ x ∈ w, x ∈ wsigns) (h60 : w.length ≤ 60) :
    ∃ t sep, part (l ++ w) = (t, sep, w) ∧ lab t w = l ∧ isHead (l ++ w) = true := by
  obtain ⟨t, b, rfl, h1, h2, ht⟩ := o
  have n58 : 58 ∉ t := fun z => (small_ne (ht 58 z)).2.2 rfl
  have at_ : allIn smalls t = true := List.all_eq_true.mpr fun x hx => decide_eq_true (ht x hx)
  have aw : allIn wsigns w = true := List.all_eq_true.mpr fun x hx => decide_eq_true (hs x hx)
  cases b with
  | false =>
    have e0 : t ++ (if false = true then [58] else []) = t := by simp
    rw [e0] at hw hw2 ⊢
    have wn : w = [] := Classical.byContradiction fun z => by
      have ec := hw z
      unfold colon at ec
      rw [beq_iff_eq] at ec
      obtain ⟨t', rfl⟩ := List.getLast?_eq_some_iff.mp ec
      exact n58 (by simp)
    subst wn
    rw [List.append_nil]
    refine ⟨t, [], part_none n58, rfl, ?_⟩
    unfold isHead
    rw [part_none n58]
    simp only [at_]
    rw [decide_eq_false (show ¬ t.length < 1 by omega), decide_eq_false (show ¬ 8 < t.length by omega)]
    rfl
  | true =>
    have e0 : t ++ (if true = true then [58] else []) = t ++ [58] := rfl
    rw [e0] at hw hw2 ⊢
    have wn := hw2 (by rw [colon_snoc]; rfl)
    have wl : 1 ≤ w.length := List.length_pos_iff.mpr wn
    have ep : part (t ++ [58] ++ w) = (t, [58], w) := by
      rw [List.append_assoc]
      exact part_app w n58
    refine ⟨t, [58], ep, by unfold lab; rw [if_neg wn], ?_⟩
    unfold isHead
    rw [ep]
    simp only [at_, aw]
    rw [decide_eq_false (show ¬ t.length < 1 by omega), decide_eq_false (show ¬ 8 < t.length by omega), decide_eq_true wl, decide_eq_true h60]
    rfl
theorem rel_take (o : M.Ok) {c : Cfg} {s : PS} {x : Nat} (w : WF M c) (R : Rel M c s) (f : fits M c x = true) : ∃ s', pstep s x = some s' ∧ Rel M (take M c x) s' := by
  obtain ⟨hw, h⟩ := fits_cases f
  have S := R.op hw
  obtain ⟨wd, e1, e2, e3, e4⟩ := R.hd
  -- what opens
  have openOk : ∀ st, (c.head, st) ∈ M.starts → (colon c.head = true → 0 < c.sg) → ∃ s', pstep s 40 = some s' ∧ Rel M (take M c 40) s' := fun st hm hsg => by
    have hl := (o.sl _ _ hm).1
    obtain ⟨t, sep, p1, p2, p3⟩ := part_lab hl e4 (fun z => by
      have := hsg z
      rw [← e2] at this
      exact List.length_pos_iff.mp this) e3 (by rw [e2]; exact w.sg60)
    rw [← e1] at p1 p3
    have es : state0 M c.head = some st := state0_of o hm
    have S' : RelS M (s0 M t wd :: c.sts) ([] :: s.rows) ((t, sep, wd) :: s.heads) := ⟨by simp only [stateL], S⟩
    have hst : take M c 40 = ⟨s0 M t wd :: c.sts, [], 0, c.whole⟩ := by
      rw [take_open]
      unfold s0
      rw [p2]
    refine ⟨⟨[] :: s.rows, part s.head :: s.heads, []⟩, ?_, ?_⟩
    · unfold pstep pstep1
      rw [if_pos rfl, if_pos p3]
      show (if pbad ⟨[] :: s.rows, part s.head :: s.heads, []⟩ then none else _) = _
      exact if_neg Bool.false_ne_true
    · rw [hst, p1]
      refine ⟨⟨[], rfl, rfl, fun _ z => (nomatch z), fun z => absurd rfl z⟩, fun z => ?_, fun _ => S'⟩
      have z : c.whole = true := z
      rw [hw] at z
      cases z
  -- what is written into the head
  have headOk : ∀ (hx1 : x ≠ 40) (hx2 : x ≠ 41), pstep s x = some ⟨s.rows, s.heads, s.head ++ [x]⟩ := fun hx1 hx2 => by
    unfold pstep pstep1
    rw [if_neg hx1, if_neg hx2]
    show (if pbad ⟨s.rows, s.heads, s.head ++ [x]⟩ then none else _) = _
    rw [if_neg]
    rw [pbad_open (c := c) (s := ⟨s.rows, s.heads, s.head ++ [x]⟩) S]
    exact Bool.false_ne_true
  rcases h with ⟨hc, rfl, hs⟩ | ⟨hc, h1, h2, h3⟩ | ⟨hc, rfl, ho⟩ | ⟨hc, rfl, hh, hcl⟩ | ⟨hc, h1, h2, hx, h3⟩
  · obtain ⟨st, k, hm, _⟩ := colon_lab o w hw hc
    exact openOk st hm fun _ => hs
  · have h41 := (wsign_ne h2).2.1
    refine ⟨_, headOk h1 h41, ?_⟩
    rw [take_colon hc h1 h41]
    refine ⟨⟨wd ++ [x], by rw [e1]; simp, by simp [e2], fun y hy => ?_, fun _ => hc⟩, fun z => ?_, fun _ => S⟩
    · rcases List.mem_append.mp hy with hy | hy
      · exact e3 y hy
      · rw [List.mem_singleton.mp hy]; exact h2
    · have z : c.whole = true := z
      rw [hw] at z; cases z
  · obtain ⟨st, k, es, _⟩ := opens_some ho
    exact openOk st (state0_some o es) fun z => by rw [hc] at z; cases z
  · have hsg := w.sg0 hc
    have wn : wd = [] := List.length_eq_zero_iff.mp (e2.trans hsg)
    rw [hh, wn] at e1
    have e1 : s.head = [] := e1
    cases hs : c.sts with
    | nil => unfold closes at hcl; rw [hs] at hcl; cases hcl
    | cons q r =>
      rw [hs] at S
      obtain ⟨rows, heads, head⟩ := s
      cases rows with
      | nil => exact S.elim
      | cons ks rows =>
        cases heads with
        | nil => exact S.elim
        | cons h heads =>
          obtain ⟨eq, S⟩ := S
          have e1 : head = [] := e1
          subst e1
          have hq : (g (cl M r) q).isSome = true := by
            unfold closes at hcl; rw [hs] at hcl; exact hcl
          have et : (Tr.nd h.1 h.2.2 ks).state M = q := by simp only [Tr.state]; exact eq.symm
          cases r with
          | nil =>
            obtain ⟨er, eh⟩ := S
            subst er
            subst eh
            refine ⟨⟨[[Tr.nd h.1 h.2.2 ks]], [], []⟩, ?_, ?_⟩
            · rfl
            · rw [take_close1 hs]
              refine ⟨⟨[], by show [] = c.head ++ []; rw [hh]; rfl, by show 0 = c.sg; exact hsg.symm, fun _ z => (nomatch z), fun z => absurd rfl z⟩, fun _ => ⟨_, rfl, rfl, ?_⟩, fun z => (nomatch z)⟩
              rw [et]
              rw [cl_nil, g_goodD o] at hq
              by_cases hg : q ∈ M.good
              · exact hg
              · rw [if_neg hg] at hq; cases hq
          | cons p r =>
            cases rows with
            | nil => exact S.elim
            | cons ks2 rows =>
              cases heads with
              | nil => exact S.elim
              | cons h2 heads =>
                obtain ⟨eq2, S⟩ := S
                have S' : RelS M (M.st p q :: r) ((ks2 ++ [Tr.nd h.1 h.2.2 ks]) :: rows) (h2 :: heads) := by
                  refine ⟨?_, S⟩
                  rw [stateL_app, ← eq2]
                  simp only [stateL]
                  rw [et]
                refine ⟨⟨(ks2 ++ [Tr.nd h.1 h.2.2 ks]) :: rows, h2 :: heads, []⟩, ?_, ?_⟩
                · rfl
                · rw [take_close2 hs]
                  exact ⟨⟨[], by show [] = c.head ++ []; rw [hh]; rfl, by show 0 = c.sg; exact hsg.symm, fun _ z => (nomatch z), fun z => absurd rfl z⟩, fun z => (nomatch z), fun _ => S'⟩
  · have hsg := w.sg0 hc
    have wn : wd = [] := List.length_eq_zero_iff.mp (e2.trans hsg)
    refine ⟨_, headOk h1 h2, ?_⟩
    rw [take_head hc h1 h2]
    refine ⟨⟨[], by rw [e1, wn]; simp, by show 0 = c.sg; exact hsg.symm, fun _ z => (nomatch z), fun z => absurd rfl z⟩, fun z => ?_, fun _ => S⟩
    have z : c.whole = true := z
    rw [hw] at z; cases z
theorem rel_run (o : M.Ok) : ∀ (a : List Nat) (c d : Cfg) (s : PS), WF M c → Rel M c s → run M c a = some d → ∃ s', prun s a = some s' ∧ Rel M d s'
  | [], c, d, s, _, R, h => by
    cases h
    exact ⟨s, rfl, R⟩
  | x :: a, c, d, s, w, R, h => by
    have h : (if fits M c x then run M (take M c x) a else none) = some d := h
    by_cases f : fits M c x = true
    · rw [if_pos f] at h
      obtain ⟨s1, e1, R1⟩ := rel_take o w R f
      obtain ⟨s2, e2, R2⟩ := rel_run o a _ d s1 (wf_take o w f) R1 h
      refine ⟨s2, ?_, R2⟩
      show (pstep s x).bind (fun s' => prun s' a) = some s2
      rw [e1]
      exact e2
    · rw [if_neg f] at h
      cases h
/-- a text that the reader has taken whole: the parser tells a tree whose state is good -/
theorem parsed_whole (o : M.Ok) {a : List Nat} {c : Cfg} (h : run M init a = some c) (hw : c.whole = true) : ∃ t, Parsed a t ∧ t.state M ∈ M.good := by
  obtain ⟨s, e, R⟩ := rel_run o a _ c _ wf_init rel_init h
  have W := run_wf o a _ c wf_init h
  obtain ⟨t, h1, h2, h3⟩ := R.wh hw
  obtain ⟨w, e1, e2, e3, e4⟩ := R.hd
  have hh := (W.wh hw).2
  have wn : w = [] := Classical.byContradiction fun z => by
    have := e4 z
    rw [hh] at this
    cases this
  rw [hh, wn] at e1
  refine ⟨t, ?_, h3⟩
  unfold Parsed
  rw [e]
  obtain ⟨rows, heads, head⟩ := s
  cases h1
  cases h2
  cases e1
  rfl
/-! ### how many nodes a parsed tree has -/
def nodesR : List (List Tr) → Nat
  | [] => 0
  | ks :: r => nodesL ks + nodesR r
def cnt (x : Nat) (l : List Nat) : Nat := l.count x
theorem pstep_nodes {s s' : PS} {x : Nat} (e : pstep s x = some s') :
    nodesR s'.rows = nodesR s.rows + (if x = 41 then 1 else 0) ∧ nodesR s'.rows + s'.heads.length = nodesR s.rows + s.heads.length + (if x = 40 then 1 else 0) := by
  unfold pstep at e
  obtain ⟨s1, e1, e2⟩ := Option.bind_eq_some_iff.mp e
  have e2 : s1 = s' := by
    split at e2
    · cases e2
    · exact Option.some.inj e2
  subst e2
  unfold pstep1 at e1
  by_cases h1 : x = 40
  · rw [if_pos h1] at e1
    split at e1
    · cases e1
      subst h1
      simp [nodesR, nodesL]
      omega
    · cases e1
  · rw [if_neg h1] at e1
    by_cases h2 : x = 41
    · rw [if_pos h2] at e1
      obtain ⟨rows, heads, head⟩ := s
      cases head with
      | cons _ _ => cases e1
      | nil =>
        cases heads with
        | nil => cases e1
        | cons h hs =>
          cases rows with
          | nil => cases e1
          | cons ks rows =>
            cases rows with
            | nil => cases e1
            | cons r rs =>
              cases e1
              simp only [nodesR, nodesL_app, nodesL, Tr.nodes, List.length_cons]
              rw [if_neg h1, if_pos h2]
              omega
    · rw [if_neg h2] at e1
      cases e1
      rw [if_neg h1, if_neg h2]
      exact ⟨rfl, rfl⟩
theorem prun_nodes : ∀ (l : List Nat) (s s' : PS), prun s l = some s' →
    nodesR s'.rows = nodesR s.rows + cnt 41 l ∧ nodesR s'.rows + s'.heads.length = nodesR s.rows + s.heads.length + cnt 40 l
  | [], s, s', e => by
    cases e
    exact ⟨rfl, rfl⟩
  | x :: l, s, s', e => by
    obtain ⟨s1, e1, e2⟩ := Option.bind_eq_some_iff.mp (show (pstep s x).bind (fun s' => prun s' l) = some s' from e)
    obtain ⟨i1, i2⟩ := prun_nodes l s1 s' e2
    obtain ⟨j1, j2⟩ := pstep_nodes e1
    unfold cnt at *
    rw [List.count_cons, List.count_cons]
    simp only [beq_iff_eq]
    omega
theorem parsed_nodes {l : List Nat} {t : Tr} (h : Parsed l t) : t.nodes = cnt 41 l ∧ t.nodes = cnt 40 l := by
  obtain ⟨h1, h2⟩ := prun_nodes l _ _ h
  simp only [nodesR, nodesL, pinit, List.length_nil] at h1 h2
  omega
theorem cnt_le (l : List Nat) : cnt 41 l + cnt 40 l ≤ l.length := by
  induction l with
  | nil => simp [cnt]
  | cons x l ih =>
    unfold cnt at *
    rw [List.count_cons, List.count_cons, List.length_cons]
    by_cases h : x = 41
    · subst h; simp; omega
    · simp only [beq_iff_eq, if_neg h]; split <;> omega
end Wd
namespace Wd
open PySem L2
open TL (tl tl_append ext_tl mk_tl partition_app partition_none len_tl)
/-! ### the text by places -/
def top (i : Nat) : Stmt := PySem.Challenge.pw_warden_k40_whole_endings.main.body.getD i (.Pass ⟨0, 0, 0, 0⟩)
abbrev sPos : Stmt := top 5
abbrev sStarted : Stmt := top 6
abbrev sFall : Stmt := top 7
abbrev sPriced : Stmt := top 8
abbrev sPrices : Stmt := top 9
abbrev sClosing : Stmt := top 14
abbrev sInit : Stmt := inClass (top 15) 0
abbrev sInner : Stmt := inClass (top 15) 1
abbrev sCheapest : Stmt := inClass (top 15) 2
abbrev sCloses : Stmt := inClass (top 15) 3
abbrev sFits : Stmt := inClass (top 15) 4
abbrev sTake : Stmt := inClass (top 15) 5
abbrev sLeft : Stmt := inClass (top 15) 6
abbrev sHint : Stmt := inClass (top 15) 7
abbrev sDraw : Stmt := top 17
abbrev sLabel : Stmt := top 18
abbrev sLabels : Stmt := top 19
abbrev sMachine : Stmt := top 20
abbrev sWord : Stmt := top 21
abbrev sTree : Stmt := top 22
abbrev sState : Stmt := top 23
abbrev sText : Stmt := top 24
abbrev sIsHead : Stmt := top 25
abbrev sParsed : Stmt := top 26
abbrev sSigns : Stmt := top 27
abbrev sBegun : Stmt := top 28
abbrev sLaw : Stmt := top 29
/-! ### values -/
def S (l : List Nat) : Str := ⟨l.toArray⟩
theorem S_list (l : List Nat) : (S l).cps.toList = l := rfl
theorem S_len (l : List Nat) : (S l).length = l.length := by
  show l.toArray.size = l.length
  exact List.size_toArray
theorem S_tl (l : List Nat) : tl (S l) = l := rfl
theorem S_app (a b : List Nat) : S a ++ S b = S (a ++ b) := by
  have h : tl (S a ++ S b) = tl (S (a ++ b)) := by rw [tl_append]; rfl
  exact ext_tl h
theorem S_inj {a b : List Nat} (h : S a = S b) : a = b := by
  have := congrArg tl h
  exact this
theorem V_str_iff {a b : List Nat} : V.str (S a) = V.str (S b) ↔ a = b := ⟨fun h => S_inj (V.str.inj h), fun h => by rw [h]⟩
theorem S_of (z : Str) : z = S (tl z) := (mk_tl z).symm
abbrev sz (n : Nat) (h : n ≤ 100000) : n ≤ sizeLine := Nat.le_trans h (by decide)
abbrev szl (n : Nat) (h : n < 100000) : n < sizeLine := Nat.lt_of_lt_of_le h (by decide)
def nV (n : Nat) : V := .int (n : Int)
def oV : Option Nat → V
  | none => .non
  | some c => .int (c : Int)
theorem same_new {H : Hp} {p : Addr} (h : H p = none) (o : HO) : Same H (upd H p o) := fun b u q => by
  rw [upd_ne (ne_of_none q h)]
  exact q
theorem same_upd {H0 H : Hp} (s : Same H0 H) {p : Addr} (h : H0 p = none) (o : HO) : Same H0 (upd H p o) := fun b u q => by
  rw [upd_ne (ne_of_none q h)]
  exact s b u q
theorem _root_.L2.Same.t {K : PySem.W.Frag} {H H' : Hp} {a : Addr} {xs : List V} (e : Same H H') (h : SqT K H a xs) : SqT K H' a xs := by
  rcases h with (h | ⟨o, h⟩) | h
  · exact .inl (.inl (e _ _ h))
  · exact .inl (.inr ⟨o, e _ _ h⟩)
  · exact .inr h
theorem S_last {l : List Nat} {c : Nat} (h : l.getLast? = some c) : atI (S l).cps.toList (-1) = some c := by
  obtain ⟨t, rfl⟩ := List.getLast?_eq_some_iff.mp h
  exact atI_last t c
/-- the rows of a machine, as lists of ints at addresses -/
def RowsAt (H : Hp) (a : Addr) (rows : List (List Nat)) : Prop := ∃ as : List Addr, H a = some (.lst (as.map V.ref)) ∧ as.length = rows.length ∧ ∀ (i : Nat) (b : Addr) (r : List Nat), as[i]? = some b → rows[i]? = some r → H b = some (.lst (r.map nV))
/-- starts: a list of pairs of a label and a state -/
def StartsAt (H : Hp) (a : Addr) (st : List (List Nat × Nat)) : Prop := ∃ as : List Addr, H a = some (.lst (as.map V.ref)) ∧ as.length = st.length ∧ ∀ (i : Nat) (b : Addr) (p : List Nat × Nat), as[i]? = some b → st[i]? = some p → H b = some (.tup [.str (S p.1), nV p.2])
def IntsAt (H : Hp) (a : Addr) (l : List Nat) : Prop := H a = some (.lst (l.map nV))
def ArAt (H : Hp) (a : Addr) (X : Ar) : Prop := H a = some (.lst (X.map oV))
/-- a machine: a tuple of its three lists -/
def MachAt (K : PySem.W.Frag) (H : Hp) (a : Addr) (M : Mach) : Prop := ∃ aS aT aG : Addr, SqT K H a [.ref aS, .ref aT, .ref aG] ∧ StartsAt H aS M.starts ∧ RowsAt H aT M.rows ∧ IntsAt H aG M.good
theorem RowsAt.mono {H H' : Hp} {a : Addr} {r : List (List Nat)} (s : Same H H') (h : RowsAt H a r) : RowsAt H' a r := by
  obtain ⟨as, h1, h2, h3⟩ := h
  exact ⟨as, s _ _ h1, h2, fun i b r e1 e2 => s _ _ (h3 i b r e1 e2)⟩
theorem StartsAt.mono {H H' : Hp} {a : Addr} {r : List (List Nat × Nat)} (s : Same H H') (h : StartsAt H a r) : StartsAt H' a r := by
  obtain ⟨as, h1, h2, h3⟩ := h
  exact ⟨as, s _ _ h1, h2, fun i b r e1 e2 => s _ _ (h3 i b r e1 e2)⟩
theorem MachAt.mono {K : PySem.W.Frag} {H H' : Hp} {a : Addr} {M : Mach} (s : Same H H') (h : MachAt K H a M) : MachAt K H' a M := by
  obtain ⟨aS, aT, aG, h1, h2, h3, h4⟩ := h
  exact ⟨aS, aT, aG, s.t h1, h2.mono s, h3.mono s, s _ _ h4⟩
theorem getMap {α β : Type} {f : α → β} {l : List α} {i : Nat} {x : α} (h : l[i]? = some x) : (l.map f)[i]? = some (f x) := by
  rw [List.getElem?_map, h]
  rfl
/-- the i-th of a list of rows -/
theorem RowsAt.get {H : Hp} {a : Addr} {rows : List (List Nat)} (h : RowsAt H a rows) {i : Nat} {r : List Nat} (e : rows[i]? = some r) : ∃ (xs : List V) (b : Addr), H a = some (.lst xs) ∧ atI xs (i : Int) = some (.ref b) ∧ H b = some (.lst (r.map nV)) := by
  obtain ⟨as, h1, h2, h3⟩ := h
  have hi : i < as.length := by rw [h2]; exact (List.getElem?_eq_some_iff.mp e).1
  exact ⟨_, as[i], h1, atI_nat (getMap (List.getElem?_eq_getElem hi)), h3 i _ r (List.getElem?_eq_getElem hi) e⟩
end Wd
namespace Wd
open PySem L2
open TL (tl tl_append ext_tl mk_tl partition_app partition_none len_tl)
section
variable {P : Program} {w : World} {K : PySem.W.Frag} {mg : Str → Option Value} {base : Heap}
theorem lab_le9 {l : List Nat} (o : LabOk l) : l.length ≤ 9 := by
  obtain ⟨t, b, rfl, _, h, _⟩ := o
  cases b <;> simp <;> omega
theorem lab_last {l : List Nat} (o : LabOk l) : ∃ c, atI (S l).cps.toList (-1) = some c ∧ (colon l = true ↔ c = 58) := by
  have hne : l ≠ [] := fun e => by
    have := lab_len o
    rw [e] at this
    simp at this
  obtain ⟨c, hc⟩ : ∃ c, l.getLast? = some c := ⟨l.getLast hne, List.getLast?_eq_some_getLast hne⟩
  refine ⟨c, S_last hc, ?_⟩
  unfold colon
  rw [hc]
  simp
theorem str58 (c : Nat) : decide (V.str ⟨#[c]⟩ = V.str ":") = decide (c = 58) := by
  by_cases h : c = 58
  · subst h
    rw [decide_eq_true rfl]
    exact decide_eq_true (by decide +kernel)
  · rw [decide_eq_false h]
    refine decide_eq_false fun e => h ?_
    have e : (⟨#[c]⟩ : Str) = ":" := V.str.inj e
    have e2 : [c] = [58] := (congrArg tl e).trans (by decide +kernel)
    exact List.singleton_inj.mp e2
/-! ### price_of_start -/
def spPos : Sp := fun vs H Q _ => ∃ l : List Nat, vs = [.str (S l)] ∧ LabOk l ∧ Q (nV (price l)) H
theorem scPos : FnScope ["label"] ["label"] (defScope sPos) := ⟨rfl, rfl, rfl, by decide +kernel, rfl, by decide +kernel, by decide +kernel⟩
theorem ok_pos {f : Addr} {fd : FuncData} (F : Fun K "price_of_start" "price_of_start" sPos f fd) (ml : mg "len" = none) : FnOk P w K mg base CX0 1 f fd ["label"] spPos := by
  refine F.ok scPos (fun vs H Q E h => ?_) (fun cdv A outer s H vs Q E hr h => ?_)
  · obtain ⟨l, rfl, _⟩ := h
    rfl
  · obtain ⟨l, rfl, o, k⟩ := h
    refine ⟨_, pss_cons (ps_if (pt_cmpR op_eq (pe_ix ix_str (pv 0) (pe_un un_neg pe_int) (fun _ _ => rfl)) pe_str (nomark _))
        (pss_one (ps_ret (pe_op op_add (pe_callB call_len_str rfl ml boot_len (pa_cons (pv 0) pa_nil)) pe_int))) pss_nil)
      (pss_one (ps_ret (pe_op op_add (pe_callB call_len_str rfl ml boot_len (pa_cons (pv 0) pa_nil)) pe_int))), ?_⟩
    obtain ⟨c, hc, hc2⟩ := lab_last o
    have hl := lab_le9 o
    have hz : (S l).length ≤ sizeLine := by rw [S_len]; exact sz _ (by omega)
    refine ⟨_, rfl, 1, rfl, _, _, c, rfl, rfl, hz, hc, rfl, _, rfl, ?_⟩
    rw [str58]
    refine ite2 (fun e => ?_) (fun e => ?_)
    · have e : c = 58 := of_decide_eq_true e
      refine ⟨_, rfl, _, rfl, hz, _, _, rfl, rfl, ?_⟩
      have q : price l = l.length + 3 := by unfold price; rw [if_pos (hc2.mpr e)]
      rw [S_len]
      rw [q] at k
      exact k
    · have e : ¬ c = 58 := of_decide_eq_false (Bool.eq_false_iff.mpr e)
      refine ⟨_, rfl, _, rfl, hz, _, _, rfl, rfl, ?_⟩
      have q : price l = l.length + 2 := by unfold price; rw [if_neg (fun z => e (hc2.mp z))]
      rw [S_len]
      rw [q] at k
      exact k
/-! ### comprehensions of one value -/
theorem wipe_own (σ : L2.St) (i : Nat) (x : V) : wipe ((wipe σ [i]).set i (some x)) [i] = wipe σ [i] := by
  show (((σ.set i none).set i (some x)).set i none) = σ.set i none
  rw [List.set_set, List.set_set]
theorem lc_const {a : Addr} {xs : List V} {i : Nat} {v : V} {σ : L2.St} {H1 : Hp} {D : Addr} {Qd : Hp → Prop} (hS : SqL K H1 a xs) (hz : xs.length < sizeLine) (hD : H1 D = none) (hd : Qd (upd H1 D (.lst (List.replicate xs.length v)))) :
    ∃ W : Nat → Nat → Hp → Prop, (∃ m, W 0 m (upd H1 D (.lst []))) ∧ ∀ i' m H, W i' m H →
      ((Itl K a).stop i' H ∧ Qd H) ∨ ((Itl K a).go i' H ∧ ∃ Nx : Hp → Prop, (∀ H', Nx H' → ∃ m', m' < m ∧ W (i' + 1) m' H') ∧ ∀ x H', (Itl K a).yld i' H x H' → gName i x (wipe σ [i]) H' fun σ2 H2 => wipe σ2 [i] = wipe σ [i] ∧ tYes σ2 H2 fun b H3 =>
        if b = true then tC v σ2 H3 fun y H4 => ∃ acc, H4 D = some (.lst acc) ∧ acc.length < sizeLine ∧ Nx (upd H4 D (.lst (acc ++ [y]))) else Nx H3) := by
  refine lc_list (K := K) (a := a) (xs := xs) (fun j H' => H' = upd H1 D (.lst (List.replicate j v))) rfl (fun j H' _ e => ?_) (fun j x H' hj e => ?_) (fun H' e => ?_)
  · rw [e]
    exact (same_new hD _).seq hS
  · have hl := (List.getElem?_eq_some_iff.mp hj).1
    refine ⟨wipe_own σ i x, List.replicate j v, by rw [e]; exact upd_same, ?_, ?_⟩
    · rw [List.length_replicate]
      exact Nat.lt_trans hl hz
    · show upd H' D _ = _
      rw [e, upd_upd, List.replicate_succ']
  · rw [e]
    exact hd
/-! ### started_prices -/
theorem ar_at {X : Ar} {t : Nat} (h : t < X.length) : atI (X.map oV) (t : Int) = some (oV (g X t)) := atI_nat (getMap (g_get h))
theorem ixN_nat {n k : Nat} (h : k < n) : ixN n (k : Int) = some k := by
  unfold ixN
  rw [if_pos (by omega), if_pos (by omega)]
  rfl
theorem map_set {X : Ar} {t : Nat} {v : Option Nat} : (X.map oV).set t (oV v) = (X.set t v).map oV := by
  rw [List.map_set]
def spStarted (K : PySem.W.Frag) : Sp := fun vs H Q _ => ∃ (a : Addr) (M : Mach), vs = [.ref a] ∧ MachAt K H a M ∧ M.Ok ∧ M.n ≤ 1000 ∧
  ∀ (t p h : Addr) (H' : Hp) (xs : List V), Same H H' → H p = none → H h = none → p ≠ h → ArAt H' p (started M) → H' h = some (.lst xs) → xs.length = M.n → H' t = some (.tup [.ref p, .ref h]) → Q (.ref t) H'
abbrev nStarted : List Str := ["machine", "prices", "hows", "label", "state", "signs", "row"]
theorem scStarted : FnScope nStarted ["machine"] (defScope sStarted) := ⟨rfl, rfl, rfl, by decide +kernel, rfl, by decide +kernel, by decide +kernel⟩
theorem ok_started {f fP : Addr} {fd fdP : FuncData} (F : Fun K "started_prices" "started_prices" sStarted f fd) (FP : Fun K "price_of_start" "price_of_start" sPos fP fdP) (bP : Binds K fdP ["label"] []) (mP : mg "price_of_start" = some (.ref fP)) (ml : mg "len" = none) :
    FnOk P w K mg base CX0 2 f fd ["machine"] (spStarted K) := by
  have G : FnOk P w K mg base CX0 1 fP fdP ["label"] spPos := ok_pos FP ml
  refine F.ok scStarted (fun vs H Q E h => ?_) (fun cdv A outer s H vs Q E hr h => ?_)
  · obtain ⟨a, M, rfl, _⟩ := h
    rfl
  obtain ⟨a, M, rfl, ⟨aS, aT, aG, hT, hS, hR, hG⟩, o, hn, k⟩ := h
  obtain ⟨as, hS1, hS2, hS3⟩ := id hS
  obtain ⟨rs, hR1, hR2, hR3⟩ := id hR
  refine ⟨_, pss_cons (ps_setLc (i := 1) (own := [("row", 6)]) (g := gName 6) (tt := tYes) rfl scStarted.nd rfl rfl (sw_true rfl rfl rfl (by decide +kernel)) (pi_list (pe_ix ix_tup (pv 0) pe_int (fun _ _ => rfl))) (blkOk_by (N := nStarted) (sc := defScope sStarted) (by decide +kernel))
      (fun _ _ _ _ _ => pg_name (i := 6) scStarted.nd rfl (Or.inl rfl)) (fun _ _ _ _ _ => pts_nil) (fun _ _ _ _ _ => pe_non))
    (pss_cons (ps_setLc (i := 2) (own := [("row", 6)]) (g := gName 6) (tt := tYes) rfl scStarted.nd rfl rfl (sw_true rfl rfl rfl (by decide +kernel)) (pi_list (pe_ix ix_tup (pv 0) pe_int (fun _ _ => rfl))) (blkOk_by (N := nStarted) (sc := defScope sStarted) (by decide +kernel))
      (fun _ _ _ _ _ => pg_name (i := 6) scStarted.nd rfl (Or.inl rfl)) (fun _ _ _ _ _ => pts_nil) (fun _ _ _ _ _ => pe_non))
    (pss_cons (ps_for PassesOwn.never rfl (pi_list (pe_ix ix_tup (pv 0) pe_int (fun _ _ => rfl))) (pg_tup rfl (pgs_cons (pg_name (i := 3) scStarted.nd rfl (.inl rfl)) (pgs_cons (pg_name (i := 4) scStarted.nd rfl (.inl rfl)) pgs_nil)))
      (pss_cons (ps_set (i := 5) scStarted.nd rfl (.inl rfl) (pe_call G hr rfl mP FP.kp bP .nil pass0 (pa_cons (pv 3) pa_nil)))
        (pss_one (ps_if (PW.pt (pw_or (pt_cmpR op_isN (pe_ix ix_list (pv 1) (pv 4) (fun _ _ => rfl)) pe_non (nomark _)) (pw_or1 (pt_cmpR op_lt (pv 5) (pe_ix ix_list (pv 1) (pv 4) (fun _ _ => rfl)) (nomark _)))))
          (pss_cons (ps_asg (pv 5) (pg_sub (pv 1) (pv 4) set_list)) (pss_one (ps_asg (pe_tup (pa_cons (pv 3) pa_nil)) (pg_sub (pv 2) (pv 4) set_list)))) pss_nil))))
    (pss_one (ps_ret (pe_tup (pa_cons (pv 1) (pa_cons (pv 2) pa_nil))))))), ?_⟩
  have rl : (rs.map V.ref).length = M.n := by rw [List.length_map, hR2, o.rl]
  have rz : (rs.map V.ref).length < sizeLine := by rw [rl]; exact szl _ (by omega)
  -- prices = [None for row in machine[1]]
  refine ⟨_, rfl, a, _, _, _, rfl, rfl, hT, rfl, aT, rfl, ⟨_, SqL.of hR1⟩, fun p hp => lc_const (SqL.of hR1) rz hp ?_⟩
  have s1 := same_new hp (.lst (List.replicate (rs.map V.ref).length V.non))
  -- hows = ..
  refine ⟨_, rfl, a, _, _, _, rfl, rfl, s1.t hT, rfl, aT, rfl, ⟨_, SqL.of (s1 _ _ hR1)⟩, fun h hh => lc_const (SqL.of (s1 _ _ hR1)) rz hh ?_⟩
  have s2 := s1.trans (same_new hh (.lst (List.replicate (rs.map V.ref).length V.non)))
  have nph : p ≠ h := ne_of_none upd_same hh
  have hh0 : H h = none := s1.free hh
  -- the loop
  refine ⟨_, rfl, a, _, _, _, rfl, rfl, s2.t hT, rfl, aS, rfl, ⟨_, SqL.of (s2 _ _ hS1)⟩, for_list (K := K) (a := aS) (xs := as.map V.ref)
    (fun i σ H' => ∃ (y3 y4 y5 y6 : Option V) (xs : List V), σ = [some (.ref a), some (.ref p), some (.ref h), y3, y4, y5, y6] ∧ Same H H' ∧ ArAt H' p (startP M.n (M.starts.take i).reverse) ∧ H' h = some (.lst xs) ∧ xs.length = M.n)
    ⟨none, none, none, none, List.replicate M.n V.non, rfl, s2, ?_, ?_, List.length_replicate⟩ (fun i σ H' _ ⟨_, _, _, _, _, _, s, _⟩ => SqL.of (s _ _ hS1)) ?_ ?_⟩
  · show upd (upd H p _) h _ p = _
    rw [upd_ne nph, upd_same, rl]
    show _ = some (HO.lst ((List.replicate M.n none).map oV))
    rw [List.map_replicate]
    rfl
  · rw [upd_same, rl]
  · rintro i x σ H' hi ⟨y3, y4, y5, y6, xs, rfl, s, hX, hH, hxl⟩
    obtain ⟨b, l, st, rfl, ep, hb⟩ : ∃ (b : Addr) (l : List Nat) (st : Nat), x = V.ref b ∧ M.starts[i]? = some (l, st) ∧ H' b = some (.tup [.str (S l), nV st]) := by
      have hia : i < as.length := by
        have q := (List.getElem?_eq_some_iff.mp hi).1
        rw [List.length_map] at q
        exact q
      have his : i < M.starts.length := by rw [← hS2]; exact hia
      rw [getMap (List.getElem?_eq_getElem hia)] at hi
      exact ⟨as[i], M.starts[i].1, M.starts[i].2, (Option.some.inj hi).symm, List.getElem?_eq_getElem his, s _ _ (hS3 i _ _ (List.getElem?_eq_getElem hia) (List.getElem?_eq_getElem his))⟩
    obtain ⟨lo, s1', s2'⟩ := o.sl _ _ (List.mem_of_getElem? ep)
    have enext : startP M.n (M.starts.take (i + 1)).reverse = (low (startP M.n (M.starts.take i).reverse) st (price l)).1 := by
      rw [List.take_add_one, ep]
      show startP M.n (M.starts.take i ++ [(l, st)]).reverse = _
      rw [List.reverse_append]
      rfl
    have hXl : (startP M.n (M.starts.take i).reverse).length = M.n := startP_len _ _
    rw [enext]
    generalize startP M.n (M.starts.take i).reverse = X at hX hXl ⊢
    have hat := ar_at (show st < X.length by rw [hXl]; exact s2')
    have ph : H' p = some (.lst (X.map oV)) := hX
    -- label, state; signs = price_of_start(label)
    refine ⟨_, _, rfl, SqT.of hb, rfl, _, _, rfl, _, _, rfl, rfl, ?_⟩
    refine ⟨_, rfl, l, rfl, lo, ?_⟩
    refine ⟨_, rfl, _, rfl, p, _, _, _, rfl, rfl, SqL.of ph, hat, rfl, _, rfl, ?_⟩
    -- the two stores
    have fin : low X st (price l) = (X.set st (some (price l)), true) → ∀ q, upd H' p (.lst ((X.map oV).set st (nV (price l)))) q = none → ∀ y6 : Option V, ∃ (y3 y4 y5 y6' : Option V) (xs' : List V),
        [some (V.ref a), some (V.ref p), some (V.ref h), some (V.str (S l)), some (nV st), some (nV (price l)), y6] = [some (V.ref a), some (V.ref p), some (V.ref h), y3, y4, y5, y6'] ∧
        Same H (upd (upd (upd H' p (.lst ((X.map oV).set st (nV (price l))))) q (.tup [.str (S l)])) h (.lst (xs.set st (.ref q)))) ∧
        ArAt (upd (upd (upd H' p (.lst ((X.map oV).set st (nV (price l))))) q (.tup [.str (S l)])) h (.lst (xs.set st (.ref q)))) p (low X st (price l)).1 ∧
        upd (upd (upd H' p (.lst ((X.map oV).set st (nV (price l))))) q (.tup [.str (S l)])) h (.lst (xs.set st (.ref q))) h = some (.lst xs') ∧ xs'.length = M.n := fun el q hq y6 => by
      have nqp : q ≠ p := fun e => by
        rw [e, upd_same] at hq
        cases hq
      have hq0 : H q = none := by
        rw [upd_ne nqp] at hq
        exact s.free hq
      refine ⟨_, _, _, _, _, rfl, same_upd (same_upd (same_upd s hp _) hq0 _) hh0 _, ?_, upd_same, by rw [List.length_set]; exact hxl⟩
      show upd _ h _ p = _
      rw [upd_ne nph, upd_ne nqp.symm, upd_same, el]
      show some (HO.lst _) = some (HO.lst _)
      rw [← map_set]
      rfl
    refine ite2 (fun e => ?_) (fun e => ?_)
    · have el := low_none (c := price l) (show g X st = none by
        cases eg : g X st with
        | none => rfl
        | some c =>
          rw [eg] at e
          exact absurd (of_decide_eq_true e) (by intro z; cases z))
      refine iteT ?_
      refine ⟨_, rfl, _, rfl, _, rfl, p, _, _, st, rfl, rfl, ph, ixN_nat (by rw [List.length_map, hXl]; exact s2'), ?_⟩
      refine ⟨_, rfl, (by show 1 ≤ sizeLine; decide), fun q hq => ⟨_, rfl, _, rfl, h, xs, _, st, rfl, rfl, ?_, ixN_nat (by rw [hxl]; exact s2'), fin el q hq _⟩⟩
      rw [upd_ne, upd_ne nph.symm]
      · exact hH
      · intro e
        rw [← e, upd_ne nph.symm, hH] at hq
        cases hq
    · cases eg : g X st with
      | none =>
        rw [eg] at e
        exact absurd (decide_eq_true rfl) e
      | some c =>
        refine ⟨_, rfl, _, rfl, _, rfl, p, _, _, _, rfl, rfl, SqL.of ph, hat, (price l : Int), (c : Int), rfl, (by rw [eg]; rfl), _, rfl, ?_⟩
        refine ite2 (fun e2 => ?_) (fun e2 => ?_)
        · have e2 : (price l : Int) < (c : Int) := of_decide_eq_true e2
          have el := low_lt eg (show price l < c by omega)
          refine ⟨_, rfl, _, rfl, _, rfl, p, _, _, st, rfl, rfl, ph, ixN_nat (by rw [List.length_map, hXl]; exact s2'), ?_⟩
          refine ⟨_, rfl, (by show 1 ≤ sizeLine; decide), fun q hq => ⟨_, rfl, _, rfl, h, xs, _, st, rfl, rfl, ?_, ixN_nat (by rw [hxl]; exact s2'), fin el q hq _⟩⟩
          rw [upd_ne, upd_ne nph.symm]
          · exact hH
          · intro e
            rw [← e, upd_ne nph.symm, hH] at hq
            cases hq
        · have e2 : ¬ (price l : Int) < (c : Int) := of_decide_eq_false (Bool.eq_false_iff.mpr e2)
          have el := low_ge eg (show ¬ price l < c by omega)
          rw [el]
          exact ⟨_, _, _, _, xs, rfl, s, hX, hH, hxl⟩
  · rintro σ H' ⟨y3, y4, y5, y6, xs, rfl, s, hX, hH, hxl⟩
    have hX : ArAt H' p (started M) := by
      have e : (as.map V.ref).length = M.starts.length := by rw [List.length_map, hS2]
      rw [e, List.take_length] at hX
      exact hX
    refine ⟨_, rfl, _, rfl, (by show 2 ≤ sizeLine; decide), fun t ht => ?_⟩
    have st := same_new ht (.tup [.ref p, .ref h])
    exact k t p h _ xs (s.trans st) hp hh0 nph (st _ _ hX) (st _ _ hH) hxl upd_same
end
end Wd
namespace Wd
open PySem L2
open TL (tl tl_append ext_tl mk_tl partition_app partition_none len_tl)
section
variable {P : Program} {w : World} {K : PySem.W.Frag} {mg : Str → Option Value} {base : Heap}
theorem ite_t {c : Bool} {A B : Prop} (hc : c = true) (h : A) : if c = true then A else B := by rw [if_pos hc]; exact h
theorem ite_f {c : Bool} {A B : Prop} (hc : c = false) (h : B) : if c = true then A else B := by rw [if_neg (by rw [hc]; exact Bool.false_ne_true)]; exact h
theorem oV_non {o : Option Nat} : decide (oV o = .non) = o.isNone := by
  cases o with
  | none => exact decide_eq_true rfl
  | some c => exact decide_eq_false (fun z => by cases z)
theorem int_eq (a b : Int) : decide (V.int a = V.int b) = decide (a = b) := by
  by_cases h : a = b
  · rw [h, decide_eq_true rfl, decide_eq_true rfl]
  · rw [decide_eq_false h, decide_eq_false fun e => h (V.int.inj e)]
theorem int_neq (a b : Int) : (!decide (V.int a = V.int b)) = !decide (a = b) := by rw [int_eq]
theorem nat_at {l : List Nat} {i x : Nat} (h : l[i]? = some x) : (l.map nV)[i]? = some (nV x) := getMap h
/-! ### prices_fall -/
def spFall (K : PySem.W.Frag) : Sp := fun vs H Q _ => ∃ (aT p h : Addr) (M : Mach) (X : Ar) (xs : List V) (H0 : Hp), vs = [.ref aT, .ref p, .ref h] ∧ M.Ok ∧ M.n ≤ 1000 ∧ X.length = M.n ∧ Same H0 H ∧ H0 p = none ∧ H0 h = none ∧ p ≠ h ∧ RowsAt H0 aT M.rows ∧ ArAt H p X ∧
  H h = some (.lst xs) ∧ xs.length = M.n ∧
  ∀ (H' : Hp) (xs' : List V), Same H0 H' → ArAt H' p (pass (candP M) (M.n - 1) X).1 → H' h = some (.lst xs') → xs'.length = M.n → Q (.bl (pass (candP M) (M.n - 1) X).2) H'
abbrev nFall : List Str := ["steps", "prices", "hows", "fell", "p", "q", "after", "signs"]
theorem scFall : FnScope nFall ["steps", "prices", "hows"] (defScope sFall) := ⟨rfl, rfl, rfl, by decide +kernel, rfl, by decide +kernel, by decide +kernel⟩
theorem ok_fall {f : Addr} {fd : FuncData} (F : Fun K "prices_fall" "prices_fall" sFall f fd) (ml : mg "len" = none) (mr : mg "range" = none) :
    FnOk P w K mg base CX0 1 f fd ["steps", "prices", "hows"] (spFall K) := by
  refine F.ok scFall (fun vs H Q E h => ?_) (fun cdv A outer s H vs Q E hr h => ?_)
  · obtain ⟨aT, p, h, M, X, xs, H0, rfl, _⟩ := h
    rfl
  obtain ⟨aT, p, h, M, X, xs, H0, rfl, o, hn, hX, s0, hp0, hh0, nph, hR, hAr, hHw, hxl, k⟩ := h
  refine ⟨_, pss_cons (ps_set (i := 3) scFall.nd rfl (.inl rfl) pe_bl)
    (pss_cons (ps_for PassesOwn.never rfl (pi_range2 rfl mr (pa_cons pe_int (pa_cons (pe_callB call_len_seq rfl ml boot_len (pa_cons (pv 0) pa_nil)) pa_nil))) (pg_name (i := 4) scFall.nd rfl (.inl rfl))
      (pss_one (ps_for PassesOwn.never rfl (pi_range2 rfl mr (pa_cons pe_int (pa_cons (pe_callB call_len_seq rfl ml boot_len (pa_cons (pv 0) pa_nil)) pa_nil))) (pg_name (i := 5) scFall.nd rfl (.inl rfl))
        (pss_cons (ps_set (i := 6) scFall.nd rfl (.inl rfl) (pe_ix ix_list (pe_ix ix_list (pv 0) (pv 4) (fun _ _ => rfl)) (pv 5) (fun _ _ => rfl)))
        (pss_one (ps_if (PW.pt (pw_and (pt_cmpR op_ne (pv 6) pe_int (nomark _)) (pw_and (pt_cmpR op_notN (pe_ix ix_list (pv 1) (pv 4) (fun _ _ => rfl)) pe_non (nomark _)) (pw_and1 (pt_cmpR op_notN (pe_ix ix_list (pv 1) (pv 5) (fun _ _ => rfl)) pe_non (nomark _))))))
          (pss_cons (ps_set (i := 7) scFall.nd rfl (.inl rfl) (pe_op op_add (pe_ix ix_list (pv 1) (pv 4) (fun _ _ => rfl)) (pe_ix ix_list (pv 1) (pv 5) (fun _ _ => rfl))))
            (pss_one (ps_if (PW.pt (pw_or (pt_cmpR op_isN (pe_ix ix_list (pv 1) (pv 6) (fun _ _ => rfl)) pe_non (nomark _)) (pw_or1 (pt_cmpR op_lt (pv 7) (pe_ix ix_list (pv 1) (pv 6) (fun _ _ => rfl)) (nomark _)))))
              (pss_cons (ps_asg (pv 7) (pg_sub (pv 1) (pv 6) set_list)) (pss_cons (ps_asg (pe_tup (pa_cons (pv 4) (pa_cons (pv 5) pa_nil))) (pg_sub (pv 2) (pv 6) set_list)) (pss_one (ps_set (i := 3) scFall.nd rfl (.inl rfl) pe_bl)))) pss_nil))) pss_nil))))))
    (pss_one (ps_ret (pv 3)))), ?_⟩
  obtain ⟨as, hR1, hR2, hR3⟩ := id hR
  have hL : (as.map V.ref).length = M.n := by rw [List.length_map, hR2, o.rl]
  have hm : (((as.map V.ref).length : Int) - 1).toNat = M.n - 1 := by rw [hL]; omega
  have hb62 : -(2 ^ 62 : Int) ≤ 1 ∧ (1 : Int) < 2 ^ 62 ∧ -(2 ^ 62 : Int) ≤ ((as.map V.ref).length : Int) ∧ ((as.map V.ref).length : Int) < 2 ^ 62 := by rw [hL]; omega
  refine ⟨_, rfl, aT, _, rfl, .inl (SqL.of (s0 _ _ hR1)), 1, _, rfl, hb62, ?_⟩
  refine for_range (lo := 1) (n := (((as.map V.ref).length : Int) - 1).toNat) (fun i σ H' => ∃ (y4 y5 y6 y7 : Option V) (xs : List V), σ = [some (.ref aT), some (.ref p), some (.ref h), some (.bl (out (candP M) (M.n - 1) i (X, false)).2), y4, y5, y6, y7] ∧
      Same H0 H' ∧ ArAt H' p (out (candP M) (M.n - 1) i (X, false)).1 ∧ H' h = some (.lst xs) ∧ xs.length = M.n)
    ⟨none, none, none, none, xs, rfl, s0, hAr, hHw, hxl⟩ ?_ ?_
  · rintro i σ H1 hi ⟨y4, y5, y6, y7, xs, rfl, s1, hA1, hH1, hx1⟩
    rw [hm] at hi
    have hS1 : (out (candP M) (M.n - 1) i (X, false)).1.length = M.n := (out_len _ i _ (by omega)).trans hX
    have eo : out (candP M) (M.n - 1) (i + 1) (X, false) = inn (candP M) (i + 1) (M.n - 1) (out (candP M) (M.n - 1) i (X, false)) := rfl
    rw [eo]
    generalize out (candP M) (M.n - 1) i (X, false) = S at hA1 hS1 ⊢
    refine ⟨_, rfl, aT, _, rfl, .inl (SqL.of (s1 _ _ hR1)), 1, _, rfl, hb62, ?_⟩
    refine for_range (lo := 1) (n := (((as.map V.ref).length : Int) - 1).toNat) (fun j σ H' => ∃ (y5 y6 y7 : Option V) (xs : List V), σ = [some (.ref aT), some (.ref p), some (.ref h), some (.bl (inn (candP M) (i + 1) j S).2), some (.int (1 + (i : Int))), y5, y6, y7] ∧
        Same H0 H' ∧ ArAt H' p (inn (candP M) (i + 1) j S).1 ∧ H' h = some (.lst xs) ∧ xs.length = M.n)
      ⟨y5, y6, y7, xs, rfl, s1, hA1, hH1, hx1⟩ ?_ ?_
    · rintro j σ H2 hj ⟨y5, y6, y7, xs, rfl, s2, hA2, hH2, hx2⟩
      rw [hm] at hj
      have hS2 : (inn (candP M) (i + 1) j S).1.length = M.n := (inn_len _ j _).trans hS1
      have eo : inn (candP M) (i + 1) (j + 1) S = turn (candP M) (inn (candP M) (i + 1) j S) (i + 1) (j + 1) := rfl
      rw [eo]
      generalize inn (candP M) (i + 1) j S = T at hA2 hS2 ⊢
      obtain ⟨X, fl⟩ := T
      have hS2 : X.length = M.n := hS2
      have hA2 : H2 p = some (.lst (X.map oV)) := hA2
      -- after = steps[p][q]
      obtain ⟨r, hr1, hr2, hr3⟩ := o.st_get (p := i + 1) (q := j + 1) (by omega) (by omega)
      obtain ⟨rs, b, hb1, hb2, hb3⟩ := (hR.mono s2).get hr1
      have ei : (1 + (i : Int)) = ((i + 1 : Nat) : Int) := by omega
      have ej : (1 + (j : Int)) = ((j + 1 : Nat) : Int) := by omega
      have hlt := o.st_lt (i + 1) (j + 1)
      refine ⟨_, rfl, _, rfl, aT, rs, _, _, rfl, rfl, SqL.of hb1, (by rw [ei]; exact hb2), _, rfl, b, _, _, _, rfl, rfl, SqL.of hb3, at_of ej (nat_at hr3), ?_⟩
      have hgp := ar_at (X := X) (t := i + 1) (by omega)
      have hgq := ar_at (X := X) (t := j + 1) (by omega)
      have hgs := ar_at (X := X) (t := M.st (i + 1) (j + 1)) (by omega)
      rw [← ei] at hgp
      rw [← ej] at hgq
      generalize hst : M.st (i + 1) (j + 1) = st at hlt hgs ⊢
      -- the turns that change nothing
      have same : turn (candP M) (X, fl) (i + 1) (j + 1) = (X, fl) → ∀ y5 y6 y7 : Option V, ∃ (y5' y6' y7' : Option V) (xs : List V), [some (V.ref aT), some (V.ref p), some (V.ref h), some (V.bl fl), some (V.int (1 + (i : Int))), y5, y6, y7] = [some (V.ref aT), some (V.ref p), some (V.ref h), some (V.bl (turn (candP M) (X, fl) (i + 1) (j + 1)).2), some (V.int (1 + (i : Int))), y5', y6', y7'] ∧
          Same H0 H2 ∧ ArAt H2 p (turn (candP M) (X, fl) (i + 1) (j + 1)).1 ∧ H2 h = some (.lst xs) ∧ xs.length = M.n := fun e y5 y6 y7 => by
        rw [e]
        exact ⟨_, _, _, xs, rfl, s2, hA2, hH2, hx2⟩
      refine ⟨_, rfl, rfl, _, rfl, ?_⟩
      by_cases h0 : st = 0
      · refine ite_f (by rw [h0]; rfl) ?_
        refine ite_f rfl ?_
        refine same ?_ _ _ _
        unfold turn relax candP
        rw [hst]
        cases g X (i + 1) <;> cases g X (j + 1) <;> simp [h0]
      refine ite_t ((int_neq (st : Int) 0).trans (by rw [decide_eq_false (by omega)]; rfl)) ?_
      refine ⟨_, rfl, _, rfl, p, _, _, _, rfl, rfl, SqL.of hA2, hgp, rfl, _, rfl, ?_⟩
      cases ep : g X (i + 1) with
      | none =>
        refine ite_f rfl ?_
        refine ite_f rfl ?_
        refine same ?_ _ _ _
        unfold turn relax candP
        rw [hst, ep]
        simp
      | some a =>
      refine ite_t rfl ?_
      refine ⟨_, rfl, _, rfl, p, _, _, _, rfl, rfl, SqL.of hA2, hgq, rfl, _, rfl, ?_⟩
      cases eq : g X (j + 1) with
      | none =>
        refine ite_f rfl ?_
        refine same ?_ _ _ _
        unfold turn relax candP
        rw [hst, ep, eq]
        simp
      | some b' =>
      refine ite_t rfl ?_
      -- signs = prices[p] + prices[q]
      rw [ep] at hgp
      rw [eq] at hgq
      refine ⟨_, rfl, _, rfl, p, _, _, _, rfl, rfl, SqL.of hA2, hgp, _, rfl, _, rfl, p, _, _, _, rfl, rfl, SqL.of hA2, hgq, (a : Int), (b' : Int), rfl, rfl, ?_⟩
      have ev : V.int ((a : Int) + (b' : Int)) = nV (a + b') := rfl
      have et : turn (candP M) (X, fl) (i + 1) (j + 1) = ((low X st (a + b')).1, fl || (low X st (a + b')).2) := by
        unfold turn relax
        rw [candP_of ep eq (by rw [hst]; exact h0), hst]
      rw [et] at same ⊢
      refine ⟨_, rfl, _, rfl, p, _, _, _, rfl, rfl, SqL.of hA2, hgs, rfl, _, rfl, ?_⟩
      -- the stores
      have fin : low X st (a + b') = (X.set st (some (a + b')), true) → ∀ q, upd H2 p (.lst ((X.map oV).set st (nV (a + b')))) q = none → ∀ y5 y6 y7 : Option V, ∃ (y5' y6' y7' : Option V) (xs' : List V),
          [some (V.ref aT), some (V.ref p), some (V.ref h), some (V.bl true), some (V.int (1 + (i : Int))), y5, y6, y7] = [some (V.ref aT), some (V.ref p), some (V.ref h), some (V.bl (fl || (low X st (a + b')).2)), some (V.int (1 + (i : Int))), y5', y6', y7'] ∧
          Same H0 (upd (upd (upd H2 p (.lst ((X.map oV).set st (nV (a + b'))))) q (.tup [.int (1 + (i : Int)), .int (1 + (j : Int))])) h (.lst (xs.set st (.ref q)))) ∧
          ArAt (upd (upd (upd H2 p (.lst ((X.map oV).set st (nV (a + b'))))) q (.tup [.int (1 + (i : Int)), .int (1 + (j : Int))])) h (.lst (xs.set st (.ref q)))) p (low X st (a + b')).1 ∧
          upd (upd (upd H2 p (.lst ((X.map oV).set st (nV (a + b'))))) q (.tup [.int (1 + (i : Int)), .int (1 + (j : Int))])) h (.lst (xs.set st (.ref q))) h = some (.lst xs') ∧ xs'.length = M.n := fun el q hq y5 y6 y7 => by
        have nqp : q ≠ p := fun e => by
          rw [e, upd_same] at hq
          cases hq
        have hq0 : H0 q = none := by
          rw [upd_ne nqp] at hq
          exact s2.free hq
        refine ⟨_, _, _, _, by rw [el, Bool.or_true], same_upd (same_upd (same_upd s2 hp0 _) hq0 _) hh0 _, ?_, upd_same, by rw [List.length_set]; exact hx2⟩
        show upd _ h _ p = _
        rw [upd_ne nph, upd_ne nqp.symm, upd_same, el]
        show some (HO.lst _) = some (HO.lst _)
        rw [← map_set]
        rfl
      have hbk : ∀ q, upd H2 p (.lst ((X.map oV).set st (nV (a + b')))) q = none → upd (upd H2 p (.lst ((X.map oV).set st (nV (a + b'))))) q (.tup [.int (1 + (i : Int)), .int (1 + (j : Int))]) h = some (.lst xs) := fun q hq => by
        rw [upd_ne, upd_ne nph.symm]
        · exact hH2
        · intro e
          rw [← e, upd_ne nph.symm, hH2] at hq
          cases hq
      cases eg : g X st with
      | none =>
        refine ite_t rfl ?_
        have el := low_none (c := a + b') eg
        refine ⟨_, rfl, _, rfl, _, rfl, p, _, _, st, rfl, rfl, hA2, ixN_nat (by rw [List.length_map]; omega), ?_⟩
        exact ⟨_, rfl, _, rfl, (by show 2 ≤ sizeLine; decide), fun q hq => ⟨_, rfl, _, rfl, h, xs, _, st, rfl, rfl, hbk q hq, ixN_nat (by rw [hx2]; exact hlt), fin el q hq _ _ _⟩⟩
      | some c =>
        refine ite_f rfl ?_
        rw [eg] at hgs
        refine ⟨_, rfl, _, rfl, _, rfl, p, _, _, _, rfl, rfl, SqL.of hA2, hgs, ((a + b' : Nat) : Int), (c : Int), rfl, rfl, _, rfl, ?_⟩
        by_cases lt : a + b' < c
        · refine ite_t (decide_eq_true (by omega)) ?_
          have el := low_lt eg lt
          refine ⟨_, rfl, _, rfl, _, rfl, p, _, _, st, rfl, rfl, hA2, ixN_nat (by rw [List.length_map]; omega), ?_⟩
          exact ⟨_, rfl, _, rfl, (by show 2 ≤ sizeLine; decide), fun q hq => ⟨_, rfl, _, rfl, h, xs, _, st, rfl, rfl, hbk q hq, ixN_nat (by rw [hx2]; exact hlt), fin el q hq _ _ _⟩⟩
        · refine ite_f (decide_eq_false (by omega)) ?_
          have el := low_ge eg lt
          refine same ?_ _ _ _
          rw [el, Bool.or_false]
    · rintro σ H2 ⟨y5, y6, y7, xs, rfl, s2, hA2, hH2, hx2⟩
      rw [hm] at hA2 ⊢
      exact ⟨_, _, _, _, xs, rfl, s2, hA2, hH2, hx2⟩
  · rintro σ H1 ⟨y4, y5, y6, y7, xs, rfl, s1, hA1, hH1, hx1⟩
    rw [hm] at hA1 ⊢
    exact ⟨_, rfl, k _ xs s1 hA1 hH1 hx1⟩
/-! ### heaps without some addresses -/
def mns (H : Hp) (l : List Addr) : Hp := fun b => if b ∈ l then none else H b
theorem mns_same (H : Hp) (l : List Addr) : Same (mns H l) H := fun b o e => by
  unfold mns at e
  split at e
  · cases e
  · exact e
theorem mns_in {H : Hp} {l : List Addr} {b : Addr} (h : b ∈ l) : mns H l b = none := if_pos h
theorem mns_out {H : Hp} {l : List Addr} {b : Addr} (h : b ∉ l) : mns H l b = H b := if_neg h
theorem mns_get {H0 H : Hp} {l : List Addr} (s : Same H0 H) (h : ∀ b ∈ l, H0 b = none) : Same H0 (mns H l) := fun b o e => by
  rw [mns_out]
  · exact s b o e
  · intro hb
    rw [h b hb] at e
    cases e
/-! ### priced, prices_of -/
def spPriced (K : PySem.W.Frag) : Sp := fun vs H Q _ => ∃ (a : Addr) (M : Mach), vs = [.ref a] ∧ MachAt K H a M ∧ M.Ok ∧ M.n ≤ 1000 ∧
  ∀ (t p h : Addr) (H' : Hp), Same H H' → H p = none → ArAt H' p (prices M) → H' t = some (.tup [.ref p, .ref h]) → Q (.ref t) H'
theorem scPriced : FnScope ["machine", "told"] ["machine"] (defScope sPriced) := ⟨rfl, rfl, rfl, by decide +kernel, rfl, by decide +kernel, by decide +kernel⟩
theorem ok_priced {f fS fF : Addr} {fd fdS fdF : FuncData} (F : Fun K "priced" "priced" sPriced f fd) (GS : FnOk P w K mg base CX0 2 fS fdS ["machine"] (spStarted K)) (bS : Binds K fdS ["machine"] []) (kS : PySem.W.keepIn K (.ref fS) = true) (mS : mg "started_prices" = some (.ref fS))
    (GF : FnOk P w K mg base CX0 1 fF fdF ["steps", "prices", "hows"] (spFall K)) (bF : Binds K fdF ["steps", "prices", "hows"] []) (kF : PySem.W.keepIn K (.ref fF) = true) (mF : mg "prices_fall" = some (.ref fF)) :
    FnOk P w K mg base CX0 3 f fd ["machine"] (spPriced K) := by
  refine F.ok scPriced (fun vs H Q E h => ?_) (fun cdv A outer s H vs Q E hr h => ?_)
  · obtain ⟨a, M, rfl, _⟩ := h
    rfl
  obtain ⟨a, M, rfl, hM, o, hn, k⟩ := h
  refine ⟨_, pss_cons (ps_set (i := 1) scPriced.nd rfl (.inl rfl) (pe_call GS hr rfl mS kS bS .nil pass0 (pa_cons (pv 0) pa_nil)))
    (pss_cons (ps_while PassesOwn.never (pt_val (pe_call GF (hr.mono (by decide)) rfl mF kF bF .nil pass0 (pa_cons (pe_ix ix_tup (pv 0) pe_int (fun _ _ => rfl)) (pa_cons (pe_ix ix_tup (pv 1) pe_int (fun _ _ => rfl)) (pa_cons (pe_ix ix_tup (pv 1) pe_int (fun _ _ => rfl)) pa_nil)))))
      (pss_one ps_pass))
    (pss_one (ps_ret (pv 1)))), ?_⟩
  refine ⟨_, rfl, a, M, rfl, hM, o, hn, fun t p h H1 xs s1 hp hh nph hA hH hx hT => ?_⟩
  obtain ⟨m0, hm0⟩ := exists_stop (candP_tgt o (M.n - 1)) (started M) started_len
  refine ⟨fun m σ H' => ∃ (j : Nat) (xs : List V), σ = [some (.ref a), some (.ref t)] ∧ Same H H' ∧ H' t = some (.tup [.ref p, .ref h]) ∧ ArAt H' p (iter (candP M) (M.n - 1) j (started M)) ∧ H' h = some (.lst xs) ∧ xs.length = M.n ∧
      Stop (candP M) (M.n - 1) m (iter (candP M) (M.n - 1) j (started M)), ⟨m0, 0, xs, rfl, s1, hT, hA, hH, hx, hm0⟩, ?_⟩
  rintro m σ H2 ⟨j, xs, rfl, s2, hT2, hA2, hH2, hx2, hst⟩
  obtain ⟨aS, aT, aG, h1, h2, h3, h4⟩ := id hM
  refine ⟨_, rfl, a, _, _, _, rfl, rfl, s2.t h1, rfl, _, rfl, t, _, _, _, rfl, rfl, SqT.of hT2, rfl, _, rfl, t, _, _, _, rfl, rfl, SqT.of hT2, rfl, ?_⟩
  have sm : Same H (mns H2 [p, h]) := mns_get s2 fun b hb => by
    rcases List.mem_cons.mp hb with rfl | hb
    · exact hp
    · rw [List.mem_singleton.mp hb]
      exact hh
  refine ⟨aT, p, h, M, _, xs, mns H2 [p, h], rfl, o, hn, (iter_len _ j _).trans started_len, mns_same _ _, mns_in (by simp), mns_in (by simp), nph, h3.mono sm, hA2, hH2, hx2, fun H3 xs' s3 hA3 hH3 hx3 => ?_⟩
  have hT3 : H3 t = some (.tup [.ref p, .ref h]) := by
    refine s3 _ _ ?_
    rw [mns_out]
    · exact hT2
    · intro hb
      rcases List.mem_cons.mp hb with e | hb
      · rw [e, hA2] at hT2
        cases hT2
      · rw [List.mem_singleton.mp hb, hH2] at hT2
        cases hT2
  refine ⟨_, rfl, ?_⟩
  cases ef : (pass (candP M) (M.n - 1) (iter (candP M) (M.n - 1) j (started M))).2 with
  | true =>
    refine ite_t rfl ?_
    cases m with
    | zero =>
      exfalso
      have hst : (pass (candP M) (M.n - 1) (iter (candP M) (M.n - 1) j (started M))).2 = false := hst
      rw [ef] at hst
      cases hst
    | succ m =>
      refine ⟨fun σ' H' => σ' = [some (.ref a), some (.ref t)] ∧ H' = H3, ?_, rfl, rfl⟩
      rintro σ' H' ⟨rfl, rfl⟩
      have ej : iter (candP M) (M.n - 1) (j + 1) (started M) = (pass (candP M) (M.n - 1) (iter (candP M) (M.n - 1) j (started M))).1 := by
        rw [iter_add]
        rfl
      refine ⟨m, Nat.lt_succ_self m, j + 1, xs', rfl, sm.trans s3, hT3, ?_, hH3, hx3, ?_⟩
      · rw [ej]
        exact hA3
      · rw [ej]
        exact hst
  | false =>
    refine ite_f rfl ?_
    have hX : (iter (candP M) (M.n - 1) j (started M)).length = M.n := (iter_len _ j _).trans started_len
    have est := pass_still (candP_tgt o (M.n - 1)) hX ef
    have elim : iter (candP M) (M.n - 1) j (started M) = prices M := lim_eq (candP_tgt o (M.n - 1)) started_len ef
    rw [est, elim] at hA3
    exact ⟨_, rfl, k t p h H3 (sm.trans s3) hp hA3 hT3⟩
def spPrices (K : PySem.W.Frag) : Sp := fun vs H Q _ => ∃ (a : Addr) (M : Mach), vs = [.ref a] ∧ MachAt K H a M ∧ M.Ok ∧ M.n ≤ 1000 ∧
  ∀ (p : Addr) (H' : Hp), Same H H' → H p = none → ArAt H' p (prices M) → Q (.ref p) H'
theorem scPrices : FnScope ["machine"] ["machine"] (defScope sPrices) := ⟨rfl, rfl, rfl, by decide +kernel, rfl, by decide +kernel, by decide +kernel⟩
theorem ok_prices {f fP : Addr} {fd fdP : FuncData} (F : Fun K "prices_of" "prices_of" sPrices f fd) (GP : FnOk P w K mg base CX0 3 fP fdP ["machine"] (spPriced K)) (bP : Binds K fdP ["machine"] []) (kP : PySem.W.keepIn K (.ref fP) = true) (mP : mg "priced" = some (.ref fP)) :
    FnOk P w K mg base CX0 4 f fd ["machine"] (spPrices K) := by
  refine F.ok scPrices (fun vs H Q E h => ?_) (fun cdv A outer s H vs Q E hr h => ?_)
  · obtain ⟨a, M, rfl, _⟩ := h
    rfl
  obtain ⟨a, M, rfl, hM, o, hn, k⟩ := h
  refine ⟨_, pss_one (ps_ret (pe_ix ix_tup (pe_call GP hr rfl mP kP bP .nil pass0 (pa_cons (pv 0) pa_nil)) pe_int (fun _ _ => rfl))), ?_⟩
  refine ⟨_, rfl, a, M, rfl, hM, o, hn, fun t p h H1 s1 hp hA hT => ?_⟩
  exact ⟨t, _, _, _, rfl, rfl, SqT.of hT, rfl, k p H1 s1 hp hA⟩
end
end Wd
namespace Wd
open PySem L2
open TL (tl tl_append ext_tl mk_tl partition_app partition_none len_tl)
theorem ar_ext {X Y : Ar} (h : X.length = Y.length) (e : ∀ t, t < X.length → g X t = g Y t) : X = Y := by
  apply List.ext_getElem? 
  intro i
  by_cases hi : i < X.length
  · rw [g_get hi, g_get (by rw [← h]; exact hi), e i hi]
  · rw [List.getElem?_eq_none (by omega), List.getElem?_eq_none (by omega)]
section
variable {P : Program} {w : World} {K : PySem.W.Frag} {mg : Str → Option Value} {base : Heap}
/-! ### closing_costs -/
def spClosing (K : PySem.W.Frag) : Sp := fun vs H Q _ => ∃ (aT aP aD : Addr) (M : Mach) (D : Ar), vs = [.ref aT, .ref aP, .ref aD] ∧ M.Ok ∧ M.n ≤ 1000 ∧ D.length = M.n ∧ RowsAt H aT M.rows ∧ ArAt H aP (prices M) ∧ ArAt H aD D ∧
  ∀ (c : Addr) (H' : Hp), Same H H' → H c = none → ArAt H' c (kcl M D) → Q (.ref c) H'
abbrev nClosing : List Str := ["steps", "prices", "closed", "costs", "p", "fell", "q", "behind", "row"]
theorem scClosing : FnScope nClosing ["steps", "prices", "closed"] (defScope sClosing) := ⟨rfl, rfl, rfl, by decide +kernel, rfl, by decide +kernel, by decide +kernel⟩
theorem ok_closing {f : Addr} {fd : FuncData} (F : Fun K "closing_costs" "closing_costs" sClosing f fd) (ml : mg "len" = none) (mr : mg "range" = none) :
    FnOk P w K mg base CX0 1 f fd ["steps", "prices", "closed"] (spClosing K) := by
  refine F.ok scClosing (fun vs H Q E h => ?_) (fun cdv A outer s H vs Q E hr h => ?_)
  · obtain ⟨aT, aP, aD, M, D, rfl, _⟩ := h
    rfl
  obtain ⟨aT, aP, aD, M, D, rfl, o, hn, hD, hR, hP, hDa, k⟩ := h
  obtain ⟨as, hR1, hR2, hR3⟩ := id hR
  refine ⟨_, pss_cons (ps_setLc (i := 3) (own := [("row", 8)]) (g := gName 8) (tt := tYes) rfl scClosing.nd rfl rfl (sw_true rfl rfl rfl (by decide +kernel)) (pi_list (pv 0)) (blkOk_by (N := nClosing) (sc := defScope sClosing) (by decide +kernel))
      (fun _ _ _ _ _ => pg_name (i := 8) scClosing.nd rfl (Or.inl rfl)) (fun _ _ _ _ _ => pts_nil) (fun _ _ _ _ _ => pe_non))
    (pss_cons (ps_for PassesOwn.never rfl (pi_range1 rfl mr (pa_cons (pe_callB call_len_seq rfl ml boot_len (pa_cons (pv 0) pa_nil)) pa_nil)) (pg_name (i := 4) scClosing.nd rfl (.inl rfl))
      (pss_one (ps_if (pt_cmpR op_notN (pe_ix ix_list (pv 2) (pv 4) (fun _ _ => rfl)) pe_non (nomark _))
        (pss_one (ps_asg (pe_op op_add (pe_ix ix_list (pv 2) (pv 4) (fun _ _ => rfl)) pe_int) (pg_sub (pv 3) (pv 4) set_list))) pss_nil)))
    (pss_cons (ps_set (i := 5) scClosing.nd rfl (.inl rfl) pe_bl)
    (pss_cons (ps_while PassesOwn.never (pt_val (pv 5))
      (pss_cons (ps_set (i := 5) scClosing.nd rfl (.inl rfl) pe_bl)
      (pss_one (ps_for PassesOwn.never rfl (pi_range2 rfl mr (pa_cons pe_int (pa_cons (pe_callB call_len_seq rfl ml boot_len (pa_cons (pv 0) pa_nil)) pa_nil))) (pg_name (i := 4) scClosing.nd rfl (.inl rfl))
        (pss_one (ps_for PassesOwn.never rfl (pi_range2 rfl mr (pa_cons pe_int (pa_cons (pe_callB call_len_seq rfl ml boot_len (pa_cons (pv 0) pa_nil)) pa_nil))) (pg_name (i := 6) scClosing.nd rfl (.inl rfl))
          (pss_cons (ps_set (i := 7) scClosing.nd rfl (.inl rfl) (pe_ix ix_list (pv 3) (pe_ix ix_list (pe_ix ix_list (pv 0) (pv 4) (fun _ _ => rfl)) (pv 6) (fun _ _ => rfl)) (fun _ _ => rfl)))
          (pss_one (ps_if (PW.pt (pw_and (pt_cmpR op_notN (pe_ix ix_list (pv 1) (pv 6) (fun _ _ => rfl)) pe_non (nomark _)) (pw_and1 (pt_cmpR op_notN (pv 7) pe_non (nomark _)))))
            (pss_one (ps_if (PW.pt (pw_or (pt_cmpR op_isN (pe_ix ix_list (pv 3) (pv 4) (fun _ _ => rfl)) pe_non (nomark _)) (pw_or1 (pt_cmpR op_lt (pe_op op_add (pe_ix ix_list (pv 1) (pv 6) (fun _ _ => rfl)) (pv 7)) (pe_ix ix_list (pv 3) (pv 4) (fun _ _ => rfl)) (nomark _)))))
              (pss_cons (ps_asg (pe_op op_add (pe_ix ix_list (pv 1) (pv 6) (fun _ _ => rfl)) (pv 7)) (pg_sub (pv 3) (pv 4) set_list)) (pss_one (ps_set (i := 5) scClosing.nd rfl (.inl rfl) pe_bl))) pss_nil)) pss_nil)))))))))
    (pss_one (ps_ret (pv 3)))))), ?_⟩
  have hL : (as.map V.ref).length = M.n := by rw [List.length_map, hR2, o.rl]
  have hz : (as.map V.ref).length < sizeLine := by rw [hL]; exact szl _ (by omega)
  have hm : (((as.map V.ref).length : Int) - 1).toNat = M.n - 1 := by rw [hL]; omega
  have hm0 : (((as.map V.ref).length : Nat) : Int).toNat = M.n := by rw [hL]; omega
  have hb62 : -(2 ^ 62 : Int) ≤ 1 ∧ (1 : Int) < 2 ^ 62 ∧ -(2 ^ 62 : Int) ≤ ((as.map V.ref).length : Int) ∧ ((as.map V.ref).length : Int) < 2 ^ 62 := by rw [hL]; omega
  -- costs = [None for row in steps]
  refine ⟨_, rfl, aT, rfl, ⟨_, SqL.of hR1⟩, fun c hc => lc_const (SqL.of hR1) hz hc ?_⟩
  have s1 := same_new hc (.lst (List.replicate (as.map V.ref).length V.non))
  have T := candK_tgt o (prices M)
  -- for p in range(len(steps))
  refine ⟨_, rfl, aT, _, rfl, .inl (SqL.of (s1 _ _ hR1)), _, rfl, by omega, by omega, ?_⟩
  refine for_range (lo := 0) (n := (((as.map V.ref).length : Nat) : Int).toNat) (fun i σ H' => ∃ (y4 y8 : Option V) (C : Ar), σ = [some (.ref aT), some (.ref aP), some (.ref aD), some (.ref c), y4, none, none, none, y8] ∧ Same H H' ∧ ArAt H' c C ∧ C.length = M.n ∧ ∀ t, g C t = if t < i then g (startK D) t else none)
    ⟨none, none, List.replicate M.n none, rfl, s1, ?_, List.length_replicate, fun t => by rw [g_rep, if_neg (by omega)]⟩ ?_ ?_
  · show upd H c _ c = _
    rw [upd_same, hL, List.map_replicate]
    rfl
  · rintro i σ H1 hi ⟨y4, y8, C, rfl, sH, hC, hCl, hCg⟩
    rw [hm0] at hi
    have ei : (0 + (i : Int)) = (i : Int) := by omega
    have hDi := ar_at (X := D) (t := i) (by omega)
    rw [← ei] at hDi
    refine ⟨_, rfl, _, rfl, aD, _, _, _, rfl, rfl, SqL.of (sH _ _ hDa), hDi, rfl, _, rfl, ?_⟩
    cases ed : g D i with
    | none =>
      refine ite_f rfl ?_
      refine ⟨_, y8, C, rfl, sH, hC, hCl, fun t => ?_⟩
      rw [hCg]
      by_cases h1 : t < i
      · rw [if_pos h1, if_pos (by omega)]
      · rw [if_neg h1]
        by_cases h2 : t < i + 1
        · have : t = i := by omega
          subst this
          rw [if_pos h2, g_startK, ed]
          rfl
        · rw [if_neg h2]
    | some d =>
      refine ite_t rfl ?_
      rw [ed] at hDi
      have hcH : H1 c = some (.lst (C.map oV)) := hC
      refine ⟨_, rfl, _, rfl, aD, _, _, _, rfl, rfl, SqL.of (sH _ _ hDa), hDi, (d : Int), 1, rfl, rfl, _, rfl, _, rfl, c, _, _, i, rfl, rfl, hcH, (by rw [ei]; exact ixN_nat (by rw [List.length_map]; omega)), ?_⟩
      refine ⟨_, y8, C.set i (some (d + 1)), rfl, same_upd sH hc _, ?_, by rw [List.length_set]; exact hCl, fun t => ?_⟩
      · show upd H1 c _ c = _
        rw [upd_same, ← map_set]
        rfl
      · by_cases h1 : t = i
        · subst h1
          rw [g_same (by omega), if_pos (by omega), g_startK, ed]
          rfl
        · rw [g_ne h1, hCg]
          by_cases h2 : t < i
          · rw [if_pos h2, if_pos (by omega)]
          · rw [if_neg h2, if_neg (by omega)]
  rintro σ H1 ⟨y4, y8, C, rfl, sH, hC, hCl, hCg⟩
  rw [hm0] at hCg
  have eC : C = startK D := ar_ext (by rw [hCl, startK_len, hD]) fun t ht => by rw [hCg, if_pos (by omega)]
  subst eC
  have hX0 : (startK D).length = M.n := hCl
  -- fell = True; while fell
  obtain ⟨k0, hk0⟩ := exists_stop T (startK D) hX0
  refine ⟨fun m σ H' => ∃ (y4 y6 y7 y8 : Option V) (fl : Bool) (j : Nat), σ = [some (.ref aT), some (.ref aP), some (.ref aD), some (.ref c), y4, some (.bl fl), y6, y7, y8] ∧ Same H H' ∧ ArAt H' c (iter (candK M (prices M)) (M.n - 1) j (startK D)) ∧
      ((fl = true ∧ ∃ k, m = k + 1 ∧ Stop (candK M (prices M)) (M.n - 1) k (iter (candK M (prices M)) (M.n - 1) j (startK D))) ∨ (fl = false ∧ m = 0 ∧ iter (candK M (prices M)) (M.n - 1) j (startK D) = kcl M D)),
    ⟨k0 + 1, y4, none, none, y8, true, 0, rfl, sH, hC, .inl ⟨rfl, k0, rfl, hk0⟩⟩, ?_⟩
  rintro m σ H2 ⟨y4, y6, y7, y8, fl, j, rfl, s2, hC2, hfl⟩
  refine ⟨_, rfl, fl, rfl, ?_⟩
  rcases hfl with ⟨rfl, kk, rfl, hst⟩ | ⟨rfl, rfl, ek⟩
  · have hXj : (iter (candK M (prices M)) (M.n - 1) j (startK D)).length = M.n := (iter_len _ j _).trans hX0
    have ej : iter (candK M (prices M)) (M.n - 1) (j + 1) (startK D) = (pass (candK M (prices M)) (M.n - 1) (iter (candK M (prices M)) (M.n - 1) j (startK D))).1 := by
      rw [iter_add]
      rfl
    have elim : (pass (candK M (prices M)) (M.n - 1) (iter (candK M (prices M)) (M.n - 1) j (startK D))).2 = false → (pass (candK M (prices M)) (M.n - 1) (iter (candK M (prices M)) (M.n - 1) j (startK D))).1 = kcl M D := fun ef => by
      rw [pass_still T hXj ef]
      exact lim_eq T hX0 ef
    generalize hX : iter (candK M (prices M)) (M.n - 1) j (startK D) = X at hC2 hst hXj ej elim
    refine ⟨fun σ' H' => ∃ (y4 y6 y7 y8 : Option V), σ' = [some (.ref aT), some (.ref aP), some (.ref aD), some (.ref c), y4, some (.bl (pass (candK M (prices M)) (M.n - 1) X).2), y6, y7, y8] ∧ Same H H' ∧ ArAt H' c (pass (candK M (prices M)) (M.n - 1) X).1, ?_, ?_⟩
    · rintro σ' H' ⟨y4, y6, y7, y8, rfl, s3, hC3⟩
      cases ef : (pass (candK M (prices M)) (M.n - 1) X).2 with
      | true =>
        cases kk with
        | zero =>
          exfalso
          have hst : (pass (candK M (prices M)) (M.n - 1) X).2 = false := hst
          rw [ef] at hst
          cases hst
        | succ kk =>
          refine ⟨kk + 1, Nat.lt_succ_self _, y4, y6, y7, y8, true, j + 1, rfl, s3, ?_, .inl ⟨rfl, kk, rfl, ?_⟩⟩
          · rw [ej]
            exact hC3
          · rw [ej]
            exact hst
      | false =>
        refine ⟨0, Nat.succ_pos _, y4, y6, y7, y8, false, j + 1, rfl, s3, ?_, .inr ⟨rfl, rfl, ?_⟩⟩
        · rw [ej]
          exact hC3
        · rw [ej]
          exact elim ef
    · -- fell = False; the two loops
      refine ⟨_, rfl, aT, _, rfl, .inl (SqL.of (s2 _ _ hR1)), 1, _, rfl, hb62, ?_⟩
      refine for_range (lo := 1) (n := (((as.map V.ref).length : Int) - 1).toNat) (fun i σ H' => ∃ (y4 y6 y7 y8 : Option V), σ = [some (.ref aT), some (.ref aP), some (.ref aD), some (.ref c), y4, some (.bl (out (candK M (prices M)) (M.n - 1) i (X, false)).2), y6, y7, y8] ∧
          Same H H' ∧ ArAt H' c (out (candK M (prices M)) (M.n - 1) i (X, false)).1)
        ⟨y4, y6, y7, y8, rfl, s2, hC2⟩ ?_ ?_
      · rintro i σ H3 hi ⟨y4, y6, y7, y8, rfl, s3, hC3⟩
        rw [hm] at hi
        have hS1 : (out (candK M (prices M)) (M.n - 1) i (X, false)).1.length = M.n := (out_len _ i _ (by omega)).trans hXj
        have eo : out (candK M (prices M)) (M.n - 1) (i + 1) (X, false) = inn (candK M (prices M)) (i + 1) (M.n - 1) (out (candK M (prices M)) (M.n - 1) i (X, false)) := rfl
        rw [eo]
        generalize out (candK M (prices M)) (M.n - 1) i (X, false) = S at hC3 hS1 ⊢
        refine ⟨_, rfl, aT, _, rfl, .inl (SqL.of (s3 _ _ hR1)), 1, _, rfl, hb62, ?_⟩
        refine for_range (lo := 1) (n := (((as.map V.ref).length : Int) - 1).toNat) (fun j σ H' => ∃ (y6 y7 y8 : Option V), σ = [some (.ref aT), some (.ref aP), some (.ref aD), some (.ref c), some (.int (1 + (i : Int))), some (.bl (inn (candK M (prices M)) (i + 1) j S).2), y6, y7, y8] ∧
            Same H H' ∧ ArAt H' c (inn (candK M (prices M)) (i + 1) j S).1)
          ⟨y6, y7, y8, rfl, s3, hC3⟩ ?_ ?_
        · rintro j' σ H4 hj ⟨y6, y7, y8, rfl, s4, hC4⟩
          rw [hm] at hj
          have hS2 : (inn (candK M (prices M)) (i + 1) j' S).1.length = M.n := (inn_len _ j' _).trans hS1
          have eo : inn (candK M (prices M)) (i + 1) (j' + 1) S = turn (candK M (prices M)) (inn (candK M (prices M)) (i + 1) j' S) (i + 1) (j' + 1) := rfl
          rw [eo]
          generalize inn (candK M (prices M)) (i + 1) j' S = T' at hC4 hS2 ⊢
          obtain ⟨Y, fl⟩ := T'
          have hS2 : Y.length = M.n := hS2
          have hC4 : H4 c = some (.lst (Y.map oV)) := hC4
          obtain ⟨r, hr1, hr2, hr3⟩ := o.st_get (p := i + 1) (q := j' + 1) (by omega) (by omega)
          obtain ⟨rs, b, hb1, hb2, hb3⟩ := (hR.mono s4).get hr1
          have ei : (1 + (i : Int)) = ((i + 1 : Nat) : Int) := by omega
          have ej' : (1 + (j' : Int)) = ((j' + 1 : Nat) : Int) := by omega
          have hlt := o.st_lt (i + 1) (j' + 1)
          have hgs := ar_at (X := Y) (t := M.st (i + 1) (j' + 1)) (by omega)
          have hgp := ar_at (X := Y) (t := i + 1) (by omega)
          have hgq := ar_at (X := prices M) (t := j' + 1) (by rw [prices_len o]; omega)
          rw [← ei] at hgp
          rw [← ej'] at hgq
          have hPq := s4 _ _ hP
          -- behind = costs[steps[p][q]]
          refine ⟨_, rfl, _, rfl, _, rfl, aT, rs, _, _, rfl, rfl, SqL.of hb1, (by rw [ei]; exact hb2), _, rfl, b, _, _, _, rfl, rfl, SqL.of hb3, at_of ej' (nat_at hr3), c, _, _, _, rfl, rfl, SqL.of hC4, hgs, ?_⟩
          have same : turn (candK M (prices M)) (Y, fl) (i + 1) (j' + 1) = (Y, fl) → ∀ y6 y7 y8 : Option V, ∃ (y6' y7' y8' : Option V), [some (V.ref aT), some (V.ref aP), some (V.ref aD), some (V.ref c), some (V.int (1 + (i : Int))), some (V.bl fl), y6, y7, y8] = [some (V.ref aT), some (V.ref aP), some (V.ref aD), some (V.ref c), some (V.int (1 + (i : Int))), some (V.bl (turn (candK M (prices M)) (Y, fl) (i + 1) (j' + 1)).2), y6', y7', y8'] ∧
              Same H H4 ∧ ArAt H4 c (turn (candK M (prices M)) (Y, fl) (i + 1) (j' + 1)).1 := fun e y6 y7 y8 => by
            rw [e]
            exact ⟨_, _, _, rfl, s4, hC4⟩
          refine ⟨_, rfl, _, rfl, aP, _, _, _, rfl, rfl, SqL.of hPq, hgq, rfl, _, rfl, ?_⟩
          cases ep : g (prices M) (j' + 1) with
          | none =>
            refine ite_f rfl ?_
            refine ite_f rfl ?_
            refine same ?_ _ _ _
            unfold turn relax candK
            rw [ep]
            simp
          | some a =>
          refine ite_t rfl ?_
          refine ⟨_, rfl, rfl, _, rfl, ?_⟩
          cases eb : g Y (M.st (i + 1) (j' + 1)) with
          | none =>
            refine ite_f rfl ?_
            refine same ?_ _ _ _
            unfold turn relax candK
            rw [ep, eb]
            simp
          | some b' =>
          refine ite_t rfl ?_
          rw [ep] at hgq
          have et : turn (candK M (prices M)) (Y, fl) (i + 1) (j' + 1) = ((low Y (i + 1) (a + b')).1, fl || (low Y (i + 1) (a + b')).2) := by
            unfold turn relax
            rw [candK_of ep eb]
          rw [et] at same ⊢
          have fin : low Y (i + 1) (a + b') = (Y.set (i + 1) (some (a + b')), true) → ∀ y6 y7 y8 : Option V, ∃ (y6' y7' y8' : Option V),
              [some (V.ref aT), some (V.ref aP), some (V.ref aD), some (V.ref c), some (V.int (1 + (i : Int))), some (V.bl true), y6, y7, y8] = [some (V.ref aT), some (V.ref aP), some (V.ref aD), some (V.ref c), some (V.int (1 + (i : Int))), some (V.bl (fl || (low Y (i + 1) (a + b')).2)), y6', y7', y8'] ∧
              Same H (upd H4 c (.lst ((Y.map oV).set (i + 1) (nV (a + b'))))) ∧ ArAt (upd H4 c (.lst ((Y.map oV).set (i + 1) (nV (a + b'))))) c (low Y (i + 1) (a + b')).1 := fun el y6 y7 y8 => by
            refine ⟨_, _, _, by rw [el, Bool.or_true], same_upd s4 hc _, ?_⟩
            show upd H4 c _ c = _
            rw [upd_same, el]
            show some (HO.lst _) = some (HO.lst _)
            rw [← map_set]
            rfl
          refine ⟨_, rfl, _, rfl, c, _, _, _, rfl, rfl, SqL.of hC4, hgp, rfl, _, rfl, ?_⟩
          cases eg : g Y (i + 1) with
          | none =>
            refine ite_t rfl ?_
            have el := low_none (c := a + b') eg
            exact ⟨_, rfl, _, rfl, aP, _, _, _, rfl, rfl, SqL.of hPq, hgq, _, rfl, (a : Int), (b' : Int), rfl, rfl, _, rfl, _, rfl, c, _, _, i + 1, rfl, rfl, hC4, (by rw [ei]; exact ixN_nat (by rw [List.length_map]; omega)), fin el _ _ _⟩
          | some d =>
            refine ite_f rfl ?_
            rw [eg] at hgp
            refine ⟨_, rfl, _, rfl, aP, _, _, _, rfl, rfl, SqL.of hPq, hgq, _, rfl, (a : Int), (b' : Int), rfl, rfl, _, rfl, _, rfl, c, _, _, _, rfl, rfl, SqL.of hC4, hgp, ((a : Int) + (b' : Int)), (d : Int), rfl, rfl, _, rfl, ?_⟩
            by_cases lt : a + b' < d
            · refine ite_t (decide_eq_true (by omega)) ?_
              have el := low_lt eg lt
              exact ⟨_, rfl, _, rfl, aP, _, _, _, rfl, rfl, SqL.of hPq, hgq, _, rfl, (a : Int), (b' : Int), rfl, rfl, _, rfl, _, rfl, c, _, _, i + 1, rfl, rfl, hC4, (by rw [ei]; exact ixN_nat (by rw [List.length_map]; omega)), fin el _ _ _⟩
            · refine ite_f (decide_eq_false (by omega)) ?_
              have el := low_ge eg lt
              refine same ?_ _ _ _
              rw [el, Bool.or_false]
        · rintro σ H4 ⟨y6, y7, y8, rfl, s4, hC4⟩
          rw [hm] at hC4 ⊢
          exact ⟨_, _, _, _, rfl, s4, hC4⟩
      · rintro σ H3 ⟨y4, y6, y7, y8, rfl, s3, hC3⟩
        rw [hm] at hC3 ⊢
        exact ⟨_, _, _, _, rfl, s3, hC3⟩
  · refine ite_f rfl ?_
    rw [ek] at hC2
    exact ⟨_, rfl, k c H2 s2 hc hC2⟩
end
end Wd
namespace Wd
open PySem L2
open TL (tl tl_append ext_tl mk_tl partition_app partition_none len_tl)
/-! ### the reader on the heap -/
structure RA where
  r : Addr
  dx : Addr
  aS : Addr
  aT : Addr
  aG : Addr
  aP : Addr
  aSt : Addr
  aC : Addr
def rfs (A : RA) (iv : V) (head : List Nat) (sg : Nat) (whole : Bool) : List (Str × V) :=
  [("starts", .ref A.aS), ("steps", .ref A.aT), ("good", .ref A.aG), ("prices", .ref A.aP), ("states", .ref A.aSt), ("costs", .ref A.aC), ("inner", iv), ("head", .str (S head)), ("signs", nV sg), ("whole", .bl whole)]
section
variable (A : RA) (iv : V) (head : List Nat) (sg : Nat) (whole : Bool)
theorem lk_starts : (rfs A iv head sg whole).lookup ("starts" : Str) = some (.ref A.aS) := by kernel_rfl
theorem lk_steps : (rfs A iv head sg whole).lookup ("steps" : Str) = some (.ref A.aT) := by kernel_rfl
theorem lk_good : (rfs A iv head sg whole).lookup ("good" : Str) = some (.ref A.aG) := by kernel_rfl
theorem lk_prices : (rfs A iv head sg whole).lookup ("prices" : Str) = some (.ref A.aP) := by kernel_rfl
theorem lk_states : (rfs A iv head sg whole).lookup ("states" : Str) = some (.ref A.aSt) := by kernel_rfl
theorem lk_costs : (rfs A iv head sg whole).lookup ("costs" : Str) = some (.ref A.aC) := by kernel_rfl
theorem lk_inner : (rfs A iv head sg whole).lookup ("inner" : Str) = some iv := by kernel_rfl
theorem lk_head : (rfs A iv head sg whole).lookup ("head" : Str) = some (.str (S head)) := by kernel_rfl
theorem lk_signs : (rfs A iv head sg whole).lookup ("signs" : Str) = some (nV sg) := by kernel_rfl
theorem lk_whole : (rfs A iv head sg whole).lookup ("whole" : Str) = some (.bl whole) := by kernel_rfl
theorem lk_m1 : (rfs A iv head sg whole).lookup ("inner_costs" : Str) = none := by kernel_rfl
theorem lk_m2 : (rfs A iv head sg whole).lookup ("cheapest" : Str) = none := by kernel_rfl
theorem lk_m3 : (rfs A iv head sg whole).lookup ("closes" : Str) = none := by kernel_rfl
theorem lk_m4 : (rfs A iv head sg whole).lookup ("fits" : Str) = none := by kernel_rfl
theorem lk_m5 : (rfs A iv head sg whole).lookup ("take" : Str) = none := by kernel_rfl
theorem lk_m6 : (rfs A iv head sg whole).lookup ("left" : Str) = none := by kernel_rfl
theorem lk_m7 : (rfs A iv head sg whole).lookup ("hint" : Str) = none := by kernel_rfl
theorem put_inner (v : V) : putF "inner" v (rfs A iv head sg whole) = rfs A v head sg whole := by kernel_rfl
theorem put_head (h : List Nat) : putF "head" (.str (S h)) (rfs A iv head sg whole) = rfs A iv h sg whole := by kernel_rfl
theorem put_signs (n : Nat) : putF "signs" (nV n) (rfs A iv head sg whole) = rfs A iv head n whole := by kernel_rfl
theorem put_whole (b : Bool) : putF "whole" (.bl b) (rfs A iv head sg whole) = rfs A iv head sg b := by kernel_rfl
end
structure Txt (K : PySem.W.Frag) (mg : Str → Option Value) (C : Addr) : Prop where
  cl : Cls K C
  nStarts : NoAttr K C "starts"
  nSteps : NoAttr K C "steps"
  nGood : NoAttr K C "good"
  nPrices : NoAttr K C "prices"
  nStates : NoAttr K C "states"
  nCosts : NoAttr K C "costs"
  nInner : NoAttr K C "inner"
  nHead : NoAttr K C "head"
  nSigns : NoAttr K C "signs"
  nWhole : NoAttr K C "whole"
  len : mg "len" = none
  range : mg "range" = none
/-- what the reader changes: itself, its states, its costs -/
def RA.mut (A : RA) : List Addr := [A.r, A.aSt, A.aC]
abbrev fr (A : RA) (H : Hp) : Hp := mns H A.mut
theorem mns_mono {H H' : Hp} (l : List Addr) (s : Same H H') : Same (mns H l) (mns H' l) := fun b o e => by
  by_cases hb : b ∈ l
  · rw [mns_in hb] at e
    cases e
  · rw [mns_out hb] at e ⊢
    exact s b o e
theorem mns_upd {H : Hp} {l : List Addr} {b : Addr} {o : HO} (h : b ∈ l) : mns (upd H b o) l = mns H l := by
  funext a
  by_cases ha : a ∈ l
  · rw [mns_in ha, mns_in ha]
  · rw [mns_out ha, mns_out ha, upd_ne]
    intro e
    rw [e] at ha
    exact ha h
def CostsAt (M : Mach) (H : Hp) : List Nat → List Addr → Prop
  | [], l => l = []
  | _ :: r, a :: l => ArAt H a (KC M r) ∧ CostsAt M H r l
  | _ :: _, [] => False
theorem CostsAt.mono {M : Mach} {H H' : Hp} (s : Same H H') : ∀ {l : List Nat} {as : List Addr}, CostsAt M H l as → CostsAt M H' l as
  | [], _, h => h
  | _ :: _, _ :: _, h => ⟨s _ _ h.1, CostsAt.mono s h.2⟩
structure Imm (M : Mach) (A : RA) (H : Hp) : Prop where
  starts : StartsAt H A.aS M.starts
  steps : RowsAt H A.aT M.rows
  good : IntsAt H A.aG M.good
  prices : ArAt H A.aP (prices M)
theorem Imm.mono {M : Mach} {A : RA} {H H' : Hp} (s : Same H H') (h : Imm M A H) : Imm M A H' := ⟨h.starts.mono s, h.steps.mono s, s _ _ h.good, s _ _ h.prices⟩
structure RdAt (C : Addr) (M : Mach) (A : RA) (H : Hp) (c : Cfg) : Prop where
  d1 : A.aSt ≠ A.aC
  imm : Imm M A (fr A H)
  ob : ∃ iv : V, H A.r = some (.ins C A.dx (rfs A iv c.head c.sg c.whole)) ∧ (iv = .non ∨ ∃ b, iv = .ref b ∧ ArAt (fr A H) b (KC M c.sts))
  st : H A.aSt = some (.lst (c.sts.reverse.map nV))
  co : ∃ cs : List Addr, H A.aC = some (.lst (cs.map V.ref)) ∧ CostsAt M (fr A H) c.sts cs.reverse
section
variable {C : Addr} {M : Mach} {A : RA} {H H' : Hp} {c : Cfg}
theorem RdAt.same (R : RdAt C M A H c) (s : Same H H') : RdAt C M A H' c := by
  have s' := mns_mono A.mut s
  obtain ⟨iv, h1, h2⟩ := R.ob
  obtain ⟨cs, h3, h4⟩ := R.co
  refine ⟨R.d1, R.imm.mono s', ⟨iv, s _ _ h1, ?_⟩, s _ _ R.st, cs, s _ _ h3, h4.mono s'⟩
  rcases h2 with h2 | ⟨b, e, h2⟩
  · exact .inl h2
  · exact .inr ⟨b, e, s' _ _ h2⟩
theorem RdAt.nrSt (R : RdAt C M A H c) : A.r ≠ A.aSt := by
  obtain ⟨iv, h1, _⟩ := R.ob
  exact ne_of h1 R.st (by intro z; cases z)
theorem RdAt.nrC (R : RdAt C M A H c) : A.r ≠ A.aC := by
  obtain ⟨iv, h1, _⟩ := R.ob
  obtain ⟨cs, h3, _⟩ := R.co
  exact ne_of h1 h3 (by intro z; cases z)
theorem mem_r : A.r ∈ A.mut := List.mem_cons_self
theorem mem_st : A.aSt ∈ A.mut := List.mem_cons_of_mem _ List.mem_cons_self
theorem mem_c : A.aC ∈ A.mut := List.mem_cons_of_mem _ (List.mem_cons_of_mem _ List.mem_cons_self)
theorem RdAt.I (R : RdAt C M A H c) : Imm M A H := R.imm.mono (mns_same _ _)
/-- an address that is new stands apart -/
theorem RdAt.new (R : RdAt C M A H c) {d : Addr} (h : H d = none) : d ∉ A.mut := by
  obtain ⟨iv, h1, _⟩ := R.ob
  obtain ⟨cs, h3, _⟩ := R.co
  intro hm
  rcases List.mem_cons.mp hm with e | hm
  · rw [e, h1] at h; cases h
  · rcases List.mem_cons.mp hm with e | hm
    · rw [e, R.st] at h; cases h
    · rw [List.mem_singleton.mp hm, h3] at h; cases h
theorem fr_out {o : HO} {b : Addr} (h : b ∉ A.mut) (e : H b = some o) : fr A H b = some o := (mns_out h).trans e
theorem RdAt.ntup (R : RdAt C M A H c) {b : Addr} {xs : List V} (e : H b = some (.tup xs)) : b ∉ A.mut := by
  obtain ⟨iv, h1, _⟩ := R.ob
  obtain ⟨cs, h3, _⟩ := R.co
  intro hm
  rcases List.mem_cons.mp hm with z | hm
  · rw [z, h1] at e; cases e
  · rcases List.mem_cons.mp hm with z | hm
    · rw [z, R.st] at e; cases e
    · rw [List.mem_singleton.mp hm, h3] at e; cases e
/-- the reader with another inner -/
theorem RdAt.setInner (R : RdAt C M A H c) {b : Addr} (h : H b = some (.lst ((KC M c.sts).map oV))) (nb : b ∉ A.mut) :
    RdAt C M A (upd H A.r (.ins C A.dx (rfs A (.ref b) c.head c.sg c.whole))) c := by
  obtain ⟨iv, h1, h2⟩ := R.ob
  obtain ⟨cs, h3, h4⟩ := R.co
  have e : fr A (upd H A.r (.ins C A.dx (rfs A (.ref b) c.head c.sg c.whole))) = fr A H := mns_upd mem_r
  refine ⟨R.d1, by rw [e]; exact R.imm, ⟨.ref b, upd_same, .inr ⟨b, rfl, ?_⟩⟩, by rw [upd_ne R.nrSt.symm]; exact R.st, cs, by rw [upd_ne R.nrC.symm]; exact h3, by rw [e]; exact h4⟩
  rw [e]
  show mns H A.mut b = _
  rw [mns_out nb]
  exact h
end
/-! ### inner_costs -/
section
variable {P : Program} {w : World} {K : PySem.W.Frag} {mg : Str → Option Value} {base : Heap}
theorem states_at {l : List Nat} {p : Nat} {r : List Nat} (h : l = p :: r) : atI (l.reverse.map nV) (-1) = some (nV p) := by
  rw [h, List.reverse_cons, List.map_append]
  exact atI_last _ _
theorem costs_at {M : Mach} {H : Hp} {p : Nat} {r : List Nat} {cs : List Addr} (h : CostsAt M H (p :: r) cs.reverse) : ∃ a, atI (cs.map V.ref) (-1) = some (.ref a) ∧ ArAt H a (KC M r) := by
  cases e : cs.reverse with
  | nil => rw [e] at h; exact h.elim
  | cons a l =>
    rw [e] at h
    have e2 : cs = l.reverse ++ [a] := by
      have := congrArg List.reverse e
      simpa using this
    refine ⟨a, ?_, h.1⟩
    rw [e2, List.map_append]
    exact atI_last _ _
def spInner (K : PySem.W.Frag) (C : Addr) : Sp := fun vs H Q _ => ∃ (A : RA) (M : Mach) (c : Cfg), vs = [.ref A.r] ∧ M.Ok ∧ M.n ≤ 1000 ∧ (∀ p ∈ c.sts, p < M.n) ∧ RdAt C M A H c ∧
  ∀ (b : Addr) (H' : Hp), Same (fr A H) (fr A H') → RdAt C M A H' c → ArAt (fr A H') b (KC M c.sts) → Q (.ref b) H'
abbrev nInner : List Str := ["self", "closed", "state", "row"]
theorem scInner : FnScope nInner ["self"] (defScope sInner) := ⟨rfl, rfl, rfl, by decide +kernel, rfl, by decide +kernel, by decide +kernel⟩
theorem ok_inner {C f fC : Addr} {fd fdC : FuncData} (F : Fun K "inner_costs" "Reader.inner_costs" sInner f fd) (T : Txt K mg C) (GC : FnOk P w K mg base CX0 1 fC fdC ["steps", "prices", "closed"] (spClosing K)) (bC : Binds K fdC ["steps", "prices", "closed"] []) (kC : PySem.W.keepIn K (.ref fC) = true) (mC : mg "closing_costs" = some (.ref fC)) :
    FnOk P w K mg base CX0 2 f fd ["self"] (spInner K C) := by
  refine F.ok scInner (fun vs H Q E h => ?_) (fun cdv A0 outer s H vs Q E hr h => ?_)
  · obtain ⟨A, M, c, rfl, _⟩ := h
    rfl
  obtain ⟨A, M, c, rfl, o, hn, hst, R, k⟩ := h
  refine ⟨_, pss_cons (ps_if (pt_cmpR op_isN (pe_fld (pv 0) rfl) pe_non (nomark _))
      (pss_cons (ps_setLc (i := 1) (own := [("row", 3)]) (g := gName 3) (tt := tYes) rfl scInner.nd rfl rfl (sw_true rfl rfl rfl (by decide +kernel)) (pi_list (pe_fld (pv 0) rfl)) (blkOk_by (N := nInner) (sc := defScope sInner) (by decide +kernel))
        (fun _ _ _ _ _ => pg_name (i := 3) scInner.nd rfl (Or.inl rfl)) (fun _ _ _ _ _ => pts_nil) (fun _ _ _ _ _ => pe_non))
      (Evl.pss_cut (ps_if (pt_cmpR op_eq (pe_callB call_len_seq rfl T.len boot_len (pa_cons (pe_fld (pv 0) rfl) pa_nil)) pe_int (nomark _))
          (pss_one (ps_for PassesOwn.never rfl (pi_list (pe_fld (pv 0) rfl)) (pg_name (i := 2) scInner.nd rfl (.inl rfl)) (pss_one (ps_asg pe_int (pg_sub (pv 1) (pv 2) set_list)))))
          (pss_one (ps_for PassesOwn.never rfl (pi_range1 rfl T.range (pa_cons (pe_callB call_len_seq rfl T.len boot_len (pa_cons (pe_fld (pv 0) rfl) pa_nil)) pa_nil)) (pg_name (i := 2) scInner.nd rfl (.inl rfl))
            (pss_one (ps_asg (pe_ix ix_list (pe_ix ix_list (pe_fld (pv 0) rfl) (pe_un un_neg pe_int) (fun _ _ => rfl)) (pe_ix ix_list (pe_ix ix_list (pe_fld (pv 0) rfl) (pe_ix ix_list (pe_fld (pv 0) rfl) (pe_un un_neg pe_int) (fun _ _ => rfl)) (fun _ _ => rfl)) (pv 2) (fun _ _ => rfl)) (fun _ _ => rfl))
              (pg_sub (pv 1) (pv 2) set_list))))))
      (pss_one (ps_fld (pv 0) (pe_call GC hr rfl mC kC bC .nil pass0 (pa_cons (pe_fld (pv 0) rfl) (pa_cons (pe_fld (pv 0) rfl) (pa_cons (pv 1) pa_nil)))) rfl)))) pss_nil)
    (pss_one (ps_ret (pe_fld (pv 0) rfl))), ?_⟩
  obtain ⟨iv, hob, hiv⟩ := R.ob
  obtain ⟨cs, hC1, hC2⟩ := R.co
  refine ⟨_, rfl, A.r, C, A.dx, _, _, rfl, hob, T.cl, T.nInner, lk_inner _ _ _ _ _, rfl, _, rfl, ?_⟩
  rcases hiv with rfl | ⟨b, rfl, hb⟩
  · refine ite_t rfl ?_
    have I := R.I
    obtain ⟨as, hR1, hR2, hR3⟩ := id I.steps
    have hL : (as.map V.ref).length = M.n := by rw [List.length_map, hR2, o.rl]
    have hz : (as.map V.ref).length < sizeLine := by rw [hL]; exact szl _ (by omega)
    -- closed = [None for row in self.steps]
    refine ⟨_, rfl, A.r, C, A.dx, _, _, rfl, hob, T.cl, T.nSteps, lk_steps _ _ _ _ _, A.aT, rfl, ⟨_, SqL.of hR1⟩, fun d hd => lc_const (SqL.of hR1) hz hd ?_⟩
    have s1 := same_new hd (.lst (List.replicate (as.map V.ref).length V.non))
    have hd0 : upd H d (.lst (List.replicate (as.map V.ref).length V.non)) d = some (.lst ((List.replicate M.n none).map oV)) := by
      rw [upd_same, hL, List.map_replicate]
      rfl
    generalize upd H d (.lst (List.replicate (as.map V.ref).length V.non)) = H1 at s1 hd0
    refine ⟨fun σ' H' => ∃ y2 y3, σ' = [some (.ref A.r), some (.ref d), y2, y3] ∧ Same H H' ∧ H' d = some (.lst ((cl M c.sts).map oV)), ?_, ?_⟩
    · refine ⟨_, rfl, A.r, C, A.dx, _, _, rfl, s1 _ _ hob, T.cl, T.nStates, lk_states _ _ _ _ _, A.aSt, _, rfl, .inl (SqL.of (s1 _ _ R.st)), rfl, _, rfl, ?_⟩
      have hlen : ((c.sts.reverse.map nV).length : Int) = (c.sts.length : Int) := by rw [List.length_map, List.length_reverse]
      rw [hlen]
      cases hs : c.sts with
      | nil =>
        refine ite_t (by decide) ?_
        have hg : H1 A.aG = some (.lst (M.good.map nV)) := s1 _ _ I.good
        refine ⟨_, rfl, A.r, C, A.dx, _, _, rfl, s1 _ _ hob, T.cl, T.nGood, lk_good _ _ _ _ _, A.aG, rfl, ⟨_, SqL.of hg⟩, for_list (K := K) (a := A.aG) (xs := M.good.map nV)
          (fun i σ H' => ∃ y2 y3, σ = [some (.ref A.r), some (.ref d), y2, y3] ∧ Same H H' ∧ H' d = some (.lst (((M.good.take i).foldl (fun X s => X.set s (some 0)) (List.replicate M.n none)).map oV)))
          ⟨none, none, rfl, s1, hd0⟩ (fun i σ H' _ ⟨_, _, _, s', _⟩ => SqL.of (s' _ _ I.good)) ?_ ?_⟩
        · rintro i x σ H' hi ⟨y2, y3, rfl, s', hd'⟩
          rw [List.getElem?_map] at hi
          cases eg : M.good[i]? with
          | none => rw [eg] at hi; cases hi
          | some st =>
          rw [eg] at hi
          have ex : nV st = x := Option.some.inj hi
          subst ex
          have hlt := (o.gd st (List.mem_of_getElem? eg)).2
          have hXl : ((M.good.take i).foldl (fun X s => X.set s (some 0)) (List.replicate M.n none)).length = M.n := (goodF M.n (M.good.take i) (List.replicate M.n none) List.length_replicate fun s h => (o.gd s (List.mem_of_mem_take h)).2).1
          refine ⟨_, rfl, _, rfl, d, _, _, st, rfl, rfl, hd', ixN_nat (by rw [List.length_map, hXl]; exact hlt), _, y3, rfl, same_upd s' hd _, ?_⟩
          rw [upd_same, List.take_add_one, eg]
          show _ = some (HO.lst ((List.foldl (fun X s => X.set s (some 0)) (List.replicate M.n none) (M.good.take i ++ [st])).map oV))
          rw [List.foldl_append]
          show _ = some (HO.lst ((List.set _ st (some 0)).map oV))
          rw [← map_set]
          rfl
        · rintro σ H' ⟨y2, y3, rfl, s', hd'⟩
          refine ⟨y2, y3, rfl, s', ?_⟩
          rw [List.length_map, List.take_length] at hd'
          exact hd'
      | cons p r =>
        refine ite_f (decide_eq_false (by simp [V.int.injEq]; omega)) ?_
        rw [hs] at hC2
        obtain ⟨ac, hc1, hc2⟩ := costs_at hC2
        have hc2 : H ac = some (.lst ((KC M r).map oV)) := mns_same _ _ _ _ hc2
        have hp : p < M.n := hst p (by rw [hs]; exact List.mem_cons_self)
        have hm0 : (((as.map V.ref).length : Nat) : Int).toNat = M.n := by rw [hL]; omega
        refine ⟨_, rfl, A.r, C, A.dx, _, _, rfl, s1 _ _ hob, T.cl, T.nSteps, lk_steps _ _ _ _ _, A.aT, _, rfl, .inl (SqL.of (s1 _ _ hR1)), _, rfl, by omega, by omega, ?_⟩
        refine for_range (lo := 0) (n := (((as.map V.ref).length : Nat) : Int).toNat) (fun i σ H' => ∃ (y2 y3 : Option V) (D : Ar), σ = [some (.ref A.r), some (.ref d), y2, y3] ∧ Same H H' ∧ H' d = some (.lst (D.map oV)) ∧ D.length = M.n ∧ ∀ t, g D t = if t < i then g (cl M (p :: r)) t else none)
          ⟨none, none, List.replicate M.n none, rfl, s1, hd0, List.length_replicate, fun t => by rw [g_rep, if_neg (by omega)]⟩ ?_ ?_
        · rintro i σ H' hi ⟨y2, y3, D, rfl, s', hd', hDl, hDg⟩
          rw [hm0] at hi
          have ei : (0 + (i : Int)) = (i : Int) := by omega
          obtain ⟨row, hr1, hr2, hr3⟩ := o.st_get (p := p) (q := i) hp hi
          obtain ⟨rs, b, hb1, hb2, hb3⟩ := (I.steps.mono s').get hr1
          have hlt := o.st_lt p i
          have hks := ar_at (X := KC M r) (t := M.st p i) (by rw [(K_inv o r).len]; exact hlt)
          refine ⟨_, rfl, A.r, C, A.dx, _, _, rfl, s' _ _ hob, T.cl, T.nCosts, lk_costs _ _ _ _ _, 1, rfl, A.aC, _, _, _, rfl, rfl, SqL.of (s' _ _ hC1), hc1,
            _, rfl, A.r, C, A.dx, _, _, rfl, s' _ _ hob, T.cl, T.nSteps, lk_steps _ _ _ _ _, _, rfl, A.r, C, A.dx, _, _, rfl, s' _ _ hob, T.cl, T.nStates, lk_states _ _ _ _ _, 1, rfl, A.aSt, _, _, _, rfl, rfl, SqL.of (s' _ _ R.st), states_at hs,
            A.aT, rs, _, _, rfl, rfl, SqL.of hb1, hb2, _, rfl, b, _, _, _, rfl, rfl, SqL.of hb3, at_of ei (nat_at hr3), ac, _, _, _, rfl, rfl, SqL.of (s' _ _ hc2), hks, ?_⟩
          refine ⟨_, rfl, _, rfl, d, _, _, i, rfl, rfl, hd', (by rw [ei]; exact ixN_nat (by rw [List.length_map]; omega)), _, y3, D.set i (g (KC M r) (M.st p i)), rfl, same_upd s' hd _, ?_, by rw [List.length_set]; exact hDl, fun t => ?_⟩
          · rw [upd_same, ← map_set]
          · by_cases h1 : t = i
            · subst h1
              rw [g_same (by omega), if_pos (by omega), cl_cons, g_stepD _ _ hi]
            · rw [g_ne h1, hDg]
              by_cases h2 : t < i
              · rw [if_pos h2, if_pos (by omega)]
              · rw [if_neg h2, if_neg (by omega)]
        · rintro σ H' ⟨y2, y3, D, rfl, s', hd', hDl, hDg⟩
          rw [hm0] at hDg
          have eD : D = cl M (p :: r) := ar_ext (by rw [hDl, cl_len o]) fun t ht => by rw [hDg, if_pos (by omega)]
          rw [eD] at hd'
          exact ⟨y2, y3, rfl, s', hd'⟩
    · rintro σ' H2 ⟨y2, y3, rfl, s2, hd2⟩
      refine ⟨_, rfl, A.r, C, A.dx, _, _, rfl, s2 _ _ hob, T.cl, T.nSteps, lk_steps _ _ _ _ _, _, rfl, A.r, C, A.dx, _, _, rfl, s2 _ _ hob, T.cl, T.nPrices, lk_prices _ _ _ _ _, _, rfl, ?_⟩
      refine ⟨A.aT, A.aP, d, M, cl M c.sts, rfl, o, hn, cl_len o _, I.steps.mono s2, s2 _ _ I.prices, hd2, fun b H3 s3 hb hb3 => ?_⟩
      have s03 := s2.trans s3
      refine ⟨_, rfl, A.r, C, A.dx, _, rfl, s03 _ _ hob, T.cl, T.nInner, (by show 10 < 1000; decide), ?_⟩
      rw [put_inner]
      have R3 := R.same s03
      have nb : b ∉ A.mut := R.new (s2.free hb)
      have R4 := R3.setInner hb3 nb
      have e4 : fr A (upd H3 A.r (.ins C A.dx (rfs A (.ref b) c.head c.sg c.whole))) = fr A H3 := mns_upd mem_r
      refine ⟨_, rfl, A.r, C, A.dx, _, _, rfl, upd_same, T.cl, T.nInner, lk_inner _ _ _ _ _, k b _ ?_ R4 ?_⟩
      · rw [e4]
        exact mns_mono _ s03
      · rw [e4]
        show mns H3 A.mut b = _
        rw [mns_out nb]
        exact hb3
  · refine ite_f rfl ?_
    exact ⟨_, rfl, A.r, C, A.dx, _, _, rfl, hob, T.cl, T.nInner, lk_inner _ _ _ _ _, k b H (Same.refl _) R hb⟩
end
end Wd
namespace Wd
open PySem L2
open TL (tl tl_append ext_tl mk_tl partition_app partition_none len_tl)
def BestAt (H : Hp) (v : V) : Option (Nat × List Nat) → Prop
  | none => v = .non
  | some b => ∃ t, v = .ref t ∧ H t = some (.tup [nV b.1, .str (S b.2)])
theorem BestAt.mono {H H' : Hp} {v : V} {b : Option (Nat × List Nat)} (s : Same H H') (h : BestAt H v b) : BestAt H' v b := by
  cases b with
  | none => exact h
  | some b =>
    obtain ⟨t, e, h⟩ := h
    exact ⟨t, e, s _ _ h⟩
theorem cut_to (l : List Nat) (n : Nat) : cutS (S l) none (some (n : Int)) = S (l.take n) := by
  apply ext_tl
  show (l.drop (HT.sIx (S l).length 0 none)).take (HT.sIx (S l).length (S l).length (some (n : Int)) - HT.sIx (S l).length 0 none) = l.take n
  rw [show HT.sIx (S l).length 0 none = 0 from HT.sIx_none _ _, show HT.sIx (S l).length (S l).length (some (n : Int)) = min n (S l).length from HT.sIx_nat _ _ _, S_len]
  rw [List.drop_zero, Nat.sub_zero]
  rcases Nat.le_total n l.length with h | h
  · rw [Nat.min_eq_left h]
  · rw [Nat.min_eq_right h, List.take_length, List.take_of_length_le h]
theorem str_eq (a b : List Nat) : decide (V.str (S a) = V.str (S b)) = (a == b) := by
  by_cases h : a = b
  · rw [h, decide_eq_true rfl]
    simp
  · rw [decide_eq_false fun e => h (V_str_iff.mp e)]
    exact (beq_eq_false_iff_ne.mpr h).symm
section
variable {P : Program} {w : World} {K : PySem.W.Frag} {mg : Str → Option Value} {base : Heap}
/-! ### cheapest -/
def spCheapest (K : PySem.W.Frag) (C : Addr) : Sp := fun vs H Q _ => ∃ (A : RA) (M : Mach) (c : Cfg) (h : List Nat), vs = [.ref A.r, .str (S h)] ∧ M.Ok ∧ M.n ≤ 1000 ∧ (∀ p ∈ c.sts, p < M.n) ∧ h.length ≤ 1000 ∧ RdAt C M A H c ∧
  ∀ (v : V) (H' : Hp), Same (fr A H) (fr A H') → RdAt C M A H' c → BestAt (fr A H') v (cheap M c h) → Q v H'
abbrev nCheapest : List Str := ["self", "head", "best", "label", "state", "cost"]
theorem scCheapest : FnScope nCheapest ["self", "head"] (defScope sCheapest) := ⟨rfl, rfl, rfl, by decide +kernel, rfl, by decide +kernel, by decide +kernel⟩
theorem ok_cheapest {C f fI : Addr} {fd fdI : FuncData} (F : Fun K "cheapest" "Reader.cheapest" sCheapest f fd) (T : Txt K mg C) (GI : FnOk P w K mg base CX0 2 fI fdI ["self"] (spInner K C)) (bI : Binds K fdI ["self"] []) (mI : Meth K C "inner_costs" fI) :
    FnOk P w K mg base CX0 3 f fd ["self", "head"] (spCheapest K C) := by
  refine F.ok scCheapest (fun vs H Q E h => ?_) (fun cdv A0 outer s H vs Q E hr h => ?_)
  · obtain ⟨A, M, c, h, rfl, _⟩ := h
    rfl
  obtain ⟨A, M, c, h, rfl, o, hn, hst, hhl, R, k⟩ := h
  refine ⟨_, pss_cons (ps_set (i := 2) scCheapest.nd rfl (.inl rfl) pe_non)
    (pss_cons (ps_for PassesOwn.never rfl (pi_list (pe_fld (pv 0) rfl)) (pg_tup rfl (pgs_cons (pg_name (i := 3) scCheapest.nd rfl (.inl rfl)) (pgs_cons (pg_name (i := 4) scCheapest.nd rfl (.inl rfl)) pgs_nil)))
      (pss_cons (ps_set (i := 5) scCheapest.nd rfl (.inl rfl) (pe_ix ix_list (pe_meth0 (pv 0) T.cl mI GI hr bI .nil pass0) (pv 4) (fun _ _ => rfl)))
      (pss_one (ps_if (PW.pt (pw_and (pt_cmpR op_eq (pe_slice sl_str (pv 3) po_none (po_some (pe_callB call_len_str rfl T.len boot_len (pa_cons (pv 1) pa_nil)))) (pv 1) (nomark _)) (pw_and1 (pt_cmpR op_notN (pv 5) pe_non (nomark _)))))
        (pss_cons (ps_set (i := 5) scCheapest.nd rfl (.inl rfl) (pe_op op_add (pe_op op_sub (pe_op op_add (pv 5) (pe_callB call_len_str rfl T.len boot_len (pa_cons (pv 3) pa_nil))) (pe_callB call_len_str rfl T.len boot_len (pa_cons (pv 1) pa_nil))) pe_int))
        (Evl.pss_cut (ps_if (PW.pt (pw_and (pt_cmpR op_eq (pe_ix ix_str (pv 3) (pe_un un_neg pe_int) (fun _ _ => rfl)) pe_str (nomark _)) (pw_and1 (PW.pt (pw_or (pt_cmpR op_ne (pv 1) (pv 3) (nomark _)) (pw_or1 (pt_cmpR op_eq (pe_fld (pv 0) rfl) pe_int (nomark _))))))))
            (pss_one (ps_set (i := 5) scCheapest.nd rfl (.inl rfl) (pe_op op_add (pv 5) pe_int))) pss_nil)
        (pss_one (ps_if (PW.pt (pw_or (pt_cmpR op_isN (pv 2) pe_non (nomark _)) (pw_or1 (pt_cmpR op_lt (pv 5) (pe_ix ix_tup (pv 2) pe_int (fun _ _ => rfl)) (nomark _)))))
            (pss_one (ps_set (i := 2) scCheapest.nd rfl (.inl rfl) (pe_tup (pa_cons (pv 5) (pa_cons (pv 3) pa_nil))))) pss_nil))))
        pss_nil))))
    (pss_one (ps_ret (pv 2)))), ?_⟩
  obtain ⟨iv, hob, _⟩ := R.ob
  obtain ⟨as, hS1, hS2, hS3⟩ := id R.imm.starts
  have hhz : (S h).length ≤ sizeLine := by rw [S_len]; exact sz _ (by omega)
  refine ⟨_, rfl, A.r, C, A.dx, _, _, rfl, hob, T.cl, T.nStarts, lk_starts _ _ _ _ _, A.aS, rfl, ⟨_, SqL.of (mns_same _ _ _ _ hS1)⟩, for_list (K := K) (a := A.aS) (xs := as.map V.ref)
    (fun i σ H' => ∃ (y3 y4 y5 : Option V) (v : V), σ = [some (.ref A.r), some (.str (S h)), some v, y3, y4, y5] ∧ Same (fr A H) (fr A H') ∧ RdAt C M A H' c ∧ BestAt (fr A H') v (cheapL (KC M c.sts) c.sg h none (M.starts.take i)))
    ⟨none, none, none, .non, rfl, Same.refl _, R, rfl⟩ (fun i σ H' _ ⟨_, _, _, _, _, s, _⟩ => SqL.of (mns_same _ _ _ _ (s _ _ hS1))) ?_ ?_⟩
  · rintro i x σ H1 hi ⟨y3, y4, y5, v, rfl, s1, R1, B1⟩
    obtain ⟨b, l, st, rfl, ep, hb⟩ : ∃ (b : Addr) (l : List Nat) (st : Nat), x = V.ref b ∧ M.starts[i]? = some (l, st) ∧ fr A H b = some (.tup [.str (S l), nV st]) := by
      have hia : i < as.length := by
        have q := (List.getElem?_eq_some_iff.mp hi).1
        rw [List.length_map] at q
        exact q
      have his : i < M.starts.length := by rw [← hS2]; exact hia
      rw [getMap (List.getElem?_eq_getElem hia)] at hi
      exact ⟨as[i], M.starts[i].1, M.starts[i].2, (Option.some.inj hi).symm, List.getElem?_eq_getElem his, hS3 i _ _ (List.getElem?_eq_getElem hia) (List.getElem?_eq_getElem his)⟩
    obtain ⟨lo, st1, st2⟩ := o.sl _ _ (List.mem_of_getElem? ep)
    have hl9 := lab_le9 lo
    have hlz : (S l).length ≤ sizeLine := by rw [S_len]; exact sz _ (by omega)
    have enext : cheapL (KC M c.sts) c.sg h none (M.starts.take (i + 1)) = best1 (KC M c.sts) c.sg h (cheapL (KC M c.sts) c.sg h none (M.starts.take i)) (l, st) := by
      rw [List.take_add_one, ep]
      show cheapL _ _ _ _ (M.starts.take i ++ [(l, st)]) = _
      unfold cheapL
      rw [List.foldl_append]
      rfl
    rw [enext]
    generalize cheapL (KC M c.sts) c.sg h none (M.starts.take i) = bst at B1 ⊢
    refine ⟨_, _, rfl, SqT.of (mns_same _ _ _ _ (s1 _ _ hb)), rfl, _, _, rfl, _, _, rfl, rfl, ?_⟩
    -- cost = self.inner_costs()[state]
    obtain ⟨iv1, hob1, _⟩ := R1.ob
    refine ⟨_, rfl, A.r, A.dx, _, rfl, hob1, lk_m1 _ _ _ _ _, A, M, c, rfl, o, hn, hst, R1, fun kb H2 s12 R2 hk2 => ?_⟩
    have s2 := s1.trans s12
    have B2 := B1.mono s12
    obtain ⟨iv2, hob2, _⟩ := R2.ob
    have hkb : H2 kb = some (.lst ((KC M c.sts).map oV)) := mns_same _ _ _ _ hk2
    have hks := ar_at (X := KC M c.sts) (t := st) (by rw [(K_inv o _).len]; exact st2)
    refine ⟨_, rfl, kb, _, _, _, rfl, rfl, SqL.of hkb, hks, ?_⟩
    -- nothing better
    have skip : cost1 (KC M c.sts) c.sg h (l, st) = none → ∀ y5 : Option V, ∃ (y3 y4 y5' : Option V) (v' : V), [some (.ref A.r), some (.str (S h)), some v, some (.str (S l)), some (nV st), y5] = [some (.ref A.r), some (.str (S h)), some v', y3, y4, y5'] ∧ Same (fr A H) (fr A H2) ∧ RdAt C M A H2 c ∧ BestAt (fr A H2) v' (best1 (KC M c.sts) c.sg h bst (l, st)) := fun e y5 => by
      refine ⟨_, _, _, v, rfl, s2, R2, ?_⟩
      unfold best1
      rw [e]
      exact B2
    refine ⟨_, rfl, _, rfl, _, rfl, hhz, (h.length : Int), (by rw [S_len]), S l, rfl, hlz, _, rfl, rfl, _, rfl, ?_⟩
    rw [cut_to]
    cases hp : pre h l with
    | false =>
      refine ite_f ((str_eq _ _).trans hp) ?_
      refine ite_f rfl ?_
      refine skip ?_ _
      unfold cost1
      rw [hp]
      rfl
    | true =>
    refine ite_t ((str_eq _ _).trans hp) ?_
    refine ⟨_, rfl, rfl, _, rfl, ?_⟩
    cases ek : g (KC M c.sts) st with
    | none =>
      refine ite_f rfl ?_
      refine skip ?_ _
      unfold cost1
      rw [hp, ek]
      rfl
    | some kk =>
    refine ite_t rfl ?_
    have hlen := pre_len hp
    -- cost = cost + len(label) - len(head) + 1
    refine ⟨_, rfl, _, rfl, _, rfl, hlz, (kk : Int), _, rfl, rfl, _, rfl, _, rfl, hhz, _, _, rfl, rfl, _, _, rfl, rfl, ?_⟩
    have eN : (((S l).length : Nat) : Int) = (l.length : Int) ∧ (((S h).length : Nat) : Int) = (h.length : Int) := ⟨by rw [S_len], by rw [S_len]⟩
    have eC0 : ∀ e : Nat, e = 0 → V.int ((kk : Int) + ((S l).length : Int) - ((S h).length : Int) + 1) = nV (kk + l.length - h.length + 1 + e) := fun e he => congrArg V.int (by rw [eN.1, eN.2]; omega)
    have eC1 : ∀ e : Nat, e = 1 → V.int ((kk : Int) + ((S l).length : Int) - ((S h).length : Int) + 1 + 1) = nV (kk + l.length - h.length + 1 + e) := fun e he => congrArg V.int (by rw [eN.1, eN.2]; omega)
    have ec1 := cost1_of (sg := c.sg) (h := h) (ls := (l, st)) hp ek
    have ec1 : cost1 (KC M c.sts) c.sg h (l, st) = some (kk + l.length - h.length + 1 + extra l h c.sg) := ec1
    refine ⟨fun σ' H' => ∃ cv : V, σ' = [some (.ref A.r), some (.str (S h)), some v, some (.str (S l)), some (nV st), some cv] ∧ cv = nV (kk + l.length - h.length + 1 + extra l h c.sg) ∧ H' = H2, ?_, ?_⟩
    · obtain ⟨ch, hch, hch2⟩ := lab_last lo
      refine ⟨_, rfl, 1, rfl, _, _, ch, rfl, rfl, hlz, hch, rfl, _, rfl, ?_⟩
      rw [str58]
      by_cases e58 : ch = 58
      · have ecol := hch2.mpr e58
        refine ite_t (decide_eq_true e58) ?_
        refine ⟨_, rfl, _, rfl, rfl, _, rfl, ?_⟩
        by_cases ehl : h = l
        · refine ite_f (by rw [str_eq]; simp [ehl]) ?_
          refine ⟨_, rfl, A.r, C, A.dx, _, _, rfl, hob2, T.cl, T.nSigns, lk_signs _ _ _ _ _, rfl, _, rfl, ?_⟩
          by_cases esg : c.sg = 0
          · refine ite_t ((int_eq _ _).trans (decide_eq_true (by omega))) ?_
            refine ⟨_, rfl, _, _, rfl, rfl, _, rfl, eC1 _ ?_, rfl⟩
            unfold extra
            rw [ecol, esg]
            simp
          · refine ite_f ((int_eq _ _).trans (decide_eq_false (by omega))) ?_
            refine ⟨_, rfl, eC0 _ ?_, rfl⟩
            unfold extra
            rw [ehl]
            simp
            intro _
            exact esg
        · refine ite_t (by rw [str_eq]; simp [ehl]) ?_
          refine ⟨_, rfl, _, _, rfl, rfl, _, rfl, eC1 _ ?_, rfl⟩
          rw [extra_ne ehl, if_pos ecol]
      · refine ite_f (decide_eq_false e58) ?_
        refine ite_f rfl ?_
        refine ⟨_, rfl, eC0 _ ?_, rfl⟩
        have hcf : colon l = false := by
          cases z : colon l with
          | false => rfl
          | true => exact absurd (hch2.mp z) e58
        unfold extra
        rw [hcf]
        rfl
    · rintro σ' H' ⟨cv, rfl, rfl, rfl⟩
      refine ⟨_, rfl, rfl, _, rfl, ?_⟩
      have better : (∀ m, bst = some m → kk + l.length - h.length + 1 + extra l h c.sg < m.1) → ∀ t, H' t = none → ∃ (y3 y4 y5' : Option V) (v' : V),
          [some (V.ref A.r), some (.str (S h)), some (.ref t), some (.str (S l)), some (nV st), some (nV (kk + l.length - h.length + 1 + extra l h c.sg))] = [some (.ref A.r), some (.str (S h)), some v', y3, y4, y5'] ∧
          Same (fr A H) (fr A (upd H' t (.tup [nV (kk + l.length - h.length + 1 + extra l h c.sg), .str (S l)]))) ∧ RdAt C M A (upd H' t (.tup [nV (kk + l.length - h.length + 1 + extra l h c.sg), .str (S l)])) c ∧
          BestAt (fr A (upd H' t (.tup [nV (kk + l.length - h.length + 1 + extra l h c.sg), .str (S l)]))) v' (best1 (KC M c.sts) c.sg h bst (l, st)) := fun hlt t ht => by
        have sn := same_new ht (.tup [nV (kk + l.length - h.length + 1 + extra l h c.sg), .str (S l)])
        refine ⟨_, _, _, .ref t, rfl, s2.trans (mns_mono _ sn), R2.same sn, ?_⟩
        have eb : best1 (KC M c.sts) c.sg h bst (l, st) = some (kk + l.length - h.length + 1 + extra l h c.sg, l) := by
          unfold best1
          rw [ec1]
          cases bst with
          | none => rfl
          | some m => exact if_pos (hlt m rfl)
        rw [eb]
        refine ⟨t, rfl, ?_⟩
        show mns _ A.mut t = _
        rw [mns_out (R2.new ht), upd_same]
      cases bst with
      | none =>
        have B2 : v = .non := B2
        subst B2
        refine ite_t rfl ?_
        exact ⟨_, rfl, _, rfl, (by show 2 ≤ sizeLine; decide), fun t ht => better (fun m e => (nomatch e)) t ht⟩
      | some m =>
        obtain ⟨tb, ev, htb⟩ := id B2
        subst ev
        refine ite_f rfl ?_
        refine ⟨_, rfl, _, rfl, tb, _, _, _, rfl, rfl, SqT.of (mns_same _ _ _ _ htb), rfl, _, (m.1 : Int), rfl, rfl, _, rfl, ?_⟩
        by_cases lt : kk + l.length - h.length + 1 + extra l h c.sg < m.1
        · refine ite_t (decide_eq_true (by omega)) ?_
          exact ⟨_, rfl, _, rfl, (by show 2 ≤ sizeLine; decide), fun t ht => better (fun m' e => by cases e; exact lt) t ht⟩
        · refine ite_f (decide_eq_false (by omega)) ?_
          refine ⟨_, _, _, _, rfl, s2, R2, ?_⟩
          have eb : best1 (KC M c.sts) c.sg h (some m) (l, st) = some m := by
            unfold best1
            rw [ec1]
            exact if_neg lt
          rw [eb]
          exact B2
  · rintro σ H1 ⟨y3, y4, y5, v, rfl, s1, R1, B1⟩
    have e : (as.map V.ref).length = M.starts.length := by rw [List.length_map, hS2]
    rw [e, List.take_length] at B1
    exact ⟨_, rfl, k v H1 s1 R1 B1⟩
end
end Wd
namespace Wd
open PySem L2
open TL (tl tl_append ext_tl mk_tl partition_app partition_none len_tl)
/-! ### what holds of every reader -/
structure Fine (M : Mach) (c : Cfg) : Prop where
  ok : M.Ok
  n : M.n ≤ 1000
  sl : M.starts.length ≤ 1000
  wf : WF M c
  rng : ∀ p ∈ c.sts, p < M.n
theorem Fine.head9 {M : Mach} {c : Cfg} (f : Fine M c) : c.head.length ≤ 9 := by
  by_cases h : c.head = []
  · rw [h]; simp
  · have hw : c.whole = false := by
      cases e : c.whole with
      | false => rfl
      | true => exact absurd (f.wf.wh e).2 h
    obtain ⟨ls, hm, hp, _⟩ := f.wf.hd hw h
    have := pre_len hp
    have := lab_le9 (f.ok.sl ls.1 ls.2 hm).1
    omega
theorem Fine.init {M : Mach} (o : M.Ok) (n : M.n ≤ 1000) (sl : M.starts.length ≤ 1000) : Fine M init := ⟨o, n, sl, wf_init, fun p h => by cases h⟩
theorem Fine.take {M : Mach} {c : Cfg} (f : Fine M c) {x : Nat} (h : fits M c x = true) : Fine M (take M c x) := by
  refine ⟨f.ok, f.n, f.sl, wf_take f.ok f.wf h, fun p hp => ?_⟩
  have hn := f.ok.n1
  have h0 : (state0 M c.head).getD 0 < M.n := by
    cases e : state0 M c.head with
    | none => exact hn
    | some s => exact (f.ok.sl _ _ (state0_some f.ok e)).2.2
  unfold Wd.take at hp
  split at hp
  · rcases List.mem_cons.mp hp with e | hp
    · rw [e]; exact h0
    · exact f.rng p hp
  · split at hp
    · split at hp
      · exact f.rng p hp
      · cases hp
      · rename_i q p' r e
        rcases List.mem_cons.mp hp with e2 | hp
        · rw [e2]; exact f.ok.st_lt _ _
        · exact f.rng p (by rw [e]; exact List.mem_cons_of_mem _ (List.mem_cons_of_mem _ hp))
    · split at hp
      · exact f.rng p hp
      · exact f.rng p hp
theorem atI_last2 {α : Type} (xs : List α) (v w : α) : atI (xs ++ [v, w]) (-2) = some v := by
  have hl : (xs ++ [v, w]).length = xs.length + 2 := by simp
  have e : ixN (xs ++ [v, w]).length (-2) = some xs.length := by
    unfold ixN
    rw [hl, if_neg (by decide), if_pos (by omega)]
    congr 1
    omega
  unfold atI
  rw [e]
  show (xs ++ [v, w])[xs.length]? = some v
  simp
theorem states_at2 {l : List Nat} {q p : Nat} {r : List Nat} (h : l = q :: p :: r) : atI (l.reverse.map nV) (-2) = some (nV p) := by
  rw [h, List.reverse_cons, List.reverse_cons, List.append_assoc, List.map_append]
  exact atI_last2 _ _ _
theorem costs_at2 {M : Mach} {H : Hp} {q p : Nat} {r : List Nat} {cs : List Addr} (h : CostsAt M H (q :: p :: r) cs.reverse) : ∃ a, atI (cs.map V.ref) (-2) = some (.ref a) ∧ ArAt H a (KC M r) := by
  cases e : cs.reverse with
  | nil => rw [e] at h; exact h.elim
  | cons a l =>
    rw [e] at h
    cases l with
    | nil => exact h.2.elim
    | cons b l =>
      have e2 : cs = l.reverse ++ [b, a] := by
        have := congrArg List.reverse e
        simpa using this
      refine ⟨b, ?_, h.2.1⟩
      rw [e2, List.map_append]
      exact atI_last2 _ _ _
theorem inV_nat (s : Nat) (l : List Nat) : inV (nV s) (l.map nV) = decide (s ∈ l) := by
  unfold inV
  rw [List.any_map]
  induction l with
  | nil => rfl
  | cons a l ih =>
    rw [List.any_cons, ih]
    show (((a : Int) == (s : Int)) || decide (s ∈ l)) = decide (s ∈ a :: l)
    by_cases h : s = a
    · subst h; simp
    · have h1 : ((a : Int) == (s : Int)) = false := by
        rw [beq_eq_false_iff_ne]
        omega
      rw [h1]
      simp [h]
theorem flat_nats (l : List Nat) : (l.map nV).all flatV = true := by
  rw [List.all_map]
  exact List.all_eq_true.mpr fun _ _ => rfl
theorem cut_last (l : List Nat) : cutS (S l) (some (-1)) none = S (l.drop (l.length - 1)) := by
  apply ext_tl
  show (l.drop (HT.sIx (S l).length 0 (some (-1)))).take (HT.sIx (S l).length (S l).length none - HT.sIx (S l).length 0 (some (-1))) = l.drop (l.length - 1)
  rw [show HT.sIx (S l).length (S l).length none = (S l).length from HT.sIx_none _ _, S_len]
  have e : HT.sIx l.length 0 (some (-1)) = l.length - 1 := by
    show (if (-1 : Int) < 0 then ((-1 : Int) + l.length).toNat else min (-1 : Int).toNat l.length) = _
    rw [if_pos (by decide)]
    omega
  rw [e, List.take_of_length_le]
  rw [List.length_drop]
  omega
theorem drop_last (l : List Nat) : (l.drop (l.length - 1) == [58]) = colon l := by
  rcases List.eq_nil_or_concat l with h | ⟨t, c, h⟩
  · subst h
    rfl
  · rw [List.concat_eq_append] at h
    subst h
    rw [colon_snoc, show (t ++ [c]).length - 1 = t.length by simp, List.drop_left]
    simp
theorem colon58 : (":" : Str) = S [58] := ext_tl (by decide +kernel)
theorem str40 : ("(" : Str) = S [40] := ext_tl (by decide +kernel)
theorem str41 : (")" : Str) = S [41] := ext_tl (by decide +kernel)
theorem str_nil : ("" : Str) = S [] := ext_tl (by decide +kernel)
theorem str97 : ("a" : Str) = S [97] := ext_tl (by decide +kernel)
theorem head_colon (l : List Nat) : decide (V.str (cutS (S l) (some (-1)) none) = V.str ":") = colon l := by
  rw [cut_last, colon58, str_eq, drop_last]
theorem sign_eq (x y : Nat) : decide (V.str (S [x]) = V.str (S [y])) = decide (x = y) := by
  rw [str_eq]
  by_cases h : x = y
  · rw [h]; simp
  · rw [decide_eq_false h]
    simp [h]
theorem is40 (x : Nat) : decide (V.str (S [x]) = V.str "(") = decide (x = 40) := by rw [str40, sign_eq]
theorem is41 (x : Nat) : decide (V.str (S [x]) = V.str ")") = decide (x = 41) := by rw [str41, sign_eq]
theorem is58 (x : Nat) : decide (V.str (S [x]) = V.str ":") = decide (x = 58) := by rw [colon58, sign_eq]
theorem isNil (l : List Nat) : decide (V.str (S l) = V.str "") = (l == []) := by rw [str_nil, str_eq]
section
variable {P : Program} {w : World} {K : PySem.W.Frag} {mg : Str → Option Value} {base : Heap}
/-! ### closes -/
def spCloses (K : PySem.W.Frag) (C : Addr) : Sp := fun vs H Q _ => ∃ (A : RA) (M : Mach) (c : Cfg), vs = [.ref A.r] ∧ M.Ok ∧ (∀ p ∈ c.sts, p < M.n) ∧ RdAt C M A H c ∧ Q (.bl (closes M c)) H
theorem scCloses : FnScope ["self"] ["self"] (defScope sCloses) := ⟨rfl, rfl, rfl, by decide +kernel, rfl, by decide +kernel, by decide +kernel⟩
theorem ok_closes {C f : Addr} {fd : FuncData} (F : Fun K "closes" "Reader.closes" sCloses f fd) (T : Txt K mg C) : FnOk P w K mg base CX0 1 f fd ["self"] (spCloses K C) := by
  refine F.ok scCloses (fun vs H Q E h => ?_) (fun cdv A0 outer s H vs Q E hr h => ?_)
  · obtain ⟨A, M, c, rfl, _⟩ := h
    rfl
  obtain ⟨A, M, c, rfl, o, hst, R, k⟩ := h
  refine ⟨_, pss_cons (ps_if (pt_cmpR op_eq (pe_callB call_len_seq rfl T.len boot_len (pa_cons (pe_fld (pv 0) rfl) pa_nil)) pe_int (nomark _)) (pss_one (ps_ret pe_bl)) pss_nil)
    (pss_cons (ps_if (pt_cmpR op_eq (pe_callB call_len_seq rfl T.len boot_len (pa_cons (pe_fld (pv 0) rfl) pa_nil)) pe_int (nomark _)) (pss_one (ps_ret (pe_cmpR op_in_seq (pe_ix ix_list (pe_fld (pv 0) rfl) pe_int (fun _ _ => rfl)) (pe_fld (pv 0) rfl) rfl))) pss_nil)
    (pss_one (ps_ret (pe_cmpR op_notN (pe_ix ix_list (pe_ix ix_list (pe_fld (pv 0) rfl) (pe_un un_neg pe_int) (fun _ _ => rfl)) (pe_ix ix_list (pe_ix ix_list (pe_fld (pv 0) rfl) (pe_ix ix_list (pe_fld (pv 0) rfl) (pe_un un_neg pe_int) (fun _ _ => rfl)) (fun _ _ => rfl)) (pe_ix ix_list (pe_fld (pv 0) rfl) (pe_un un_neg pe_int) (fun _ _ => rfl)) (fun _ _ => rfl)) (fun _ _ => rfl)) pe_non (nomark _))))), ?_⟩
  obtain ⟨iv, hob, _⟩ := R.ob
  obtain ⟨cs, hC1, hC2⟩ := R.co
  have I := R.I
  have hlen : ((c.sts.reverse.map nV).length : Int) = (c.sts.length : Int) := by rw [List.length_map, List.length_reverse]
  refine ⟨_, rfl, A.r, C, A.dx, _, _, rfl, hob, T.cl, T.nStates, lk_states _ _ _ _ _, A.aSt, _, rfl, .inl (SqL.of R.st), rfl, _, rfl, ?_⟩
  rw [hlen]
  unfold closes at k
  cases hs : c.sts with
  | nil =>
    refine ite_t (by decide) ?_
    rw [hs] at k
    exact k
  | cons q r =>
    refine ite_f ((int_eq _ _).trans (decide_eq_false (by simp; omega))) ?_
    rw [hs] at k
    refine ⟨_, rfl, A.r, C, A.dx, _, _, rfl, hob, T.cl, T.nStates, lk_states _ _ _ _ _, A.aSt, _, rfl, .inl (SqL.of R.st), rfl, _, rfl, ?_⟩
    rw [hlen, hs]
    cases r with
    | nil =>
      refine ite_t (decide_eq_true rfl) ?_
      refine ⟨_, rfl, A.r, C, A.dx, _, _, rfl, hob, T.cl, T.nStates, lk_states _ _ _ _ _, A.aSt, _, 0, nV q, rfl, rfl, SqL.of R.st, (by rw [hs]; rfl), _, rfl, A.r, C, A.dx, _, _, rfl, hob, T.cl, T.nGood, lk_good _ _ _ _ _, A.aG, _, rfl, .inl (SqL.of I.good), rfl, flat_nats _, ?_⟩
      have e : inV (nV q) (M.good.map nV) = (g (cl M []) q).isSome := by
        rw [inV_nat, cl_nil, g_goodD o]
        by_cases h : q ∈ M.good
        · rw [if_pos h, decide_eq_true h]; rfl
        · rw [if_neg h, decide_eq_false h]; rfl
      show Q (.bl (inV (nV q) (M.good.map nV))) H
      rw [e]
      exact k
    | cons p r =>
      refine ite_f ((int_eq _ _).trans (decide_eq_false (by simp; omega))) ?_
      rw [hs] at hC2
      obtain ⟨ac, hc1, hc2⟩ := costs_at2 hC2
      have hc2 : H ac = some (.lst ((KC M r).map oV)) := mns_same _ _ _ _ hc2
      have hp : p < M.n := hst p (by rw [hs]; simp)
      have hq : q < M.n := hst q (by rw [hs]; simp)
      obtain ⟨row, hr1, hr2, hr3⟩ := o.st_get hp hq
      obtain ⟨rs, b, hb1, hb2, hb3⟩ := I.steps.get hr1
      have hks := ar_at (X := KC M r) (t := M.st p q) (by rw [(K_inv o r).len]; exact o.st_lt _ _)
      refine ⟨_, rfl, A.r, C, A.dx, _, _, rfl, hob, T.cl, T.nCosts, lk_costs _ _ _ _ _, 2, rfl, A.aC, _, _, _, rfl, rfl, SqL.of hC1, hc1,
        _, rfl, A.r, C, A.dx, _, _, rfl, hob, T.cl, T.nSteps, lk_steps _ _ _ _ _, _, rfl, A.r, C, A.dx, _, _, rfl, hob, T.cl, T.nStates, lk_states _ _ _ _ _, 2, rfl, A.aSt, _, _, _, rfl, rfl, SqL.of R.st, states_at2 hs,
        A.aT, rs, _, _, rfl, rfl, SqL.of hb1, hb2, _, rfl, A.r, C, A.dx, _, _, rfl, hob, T.cl, T.nStates, lk_states _ _ _ _ _, 1, rfl, A.aSt, _, _, _, rfl, rfl, SqL.of R.st, states_at hs,
        b, _, _, _, rfl, rfl, SqL.of hb3, atI_nat (nat_at hr3), ac, _, _, _, rfl, rfl, SqL.of hc2, hks, rfl, ?_⟩
      show Q (.bl (!decide (oV (g (KC M r) (M.st p q)) = V.non))) H
      rw [oV_non]
      have k : Q (.bl (g (cl M (p :: r)) q).isSome) H := k
      rw [cl_cons, g_stepD _ _ hq] at k
      cases e : g (KC M r) (M.st p q) with
      | none => rw [e] at k; exact k
      | some v => rw [e] at k; exact k
end
end Wd
namespace Wd
open PySem L2
open TL (tl tl_append ext_tl mk_tl partition_app partition_none len_tl)
/-- the globals of the reader's module -/
structure Glb (mg : Str → Option Value) : Prop where
  sm : ∃ t, mg "SMALL_LETTERS" = some (.str "abcdefghijklmnopqrstuvwxyz" t)
  sw : ∃ t, mg "SIGNS_OF_WORDS" = some (.str "abcdefghijklmnopqrstuvwxyz0123456789" t)
  mw : ∃ t, mg "MOST_WORD" = some (.int 60 t)
theorem small_str : ("abcdefghijklmnopqrstuvwxyz" : Str) = S smalls := ext_tl (by decide +kernel)
theorem wsign_str : ("abcdefghijklmnopqrstuvwxyz0123456789" : Str) = S wsigns := ext_tl (by decide +kernel)
/-- what a search for a label finds -/
def FoundAt (H : Hp) (bs : List V) : Option (List Nat × Nat) → Prop
  | none => bs = []
  | some ls => ∃ b bs', bs = .ref b :: bs' ∧ H b = some (.tup [.str (S ls.1), nV ls.2])
theorem FoundAt.mono {H H' : Hp} {bs : List V} {o : Option (List Nat × Nat)} (s : Same H H') (h : FoundAt H bs o) : FoundAt H' bs o := by
  cases o with
  | none => exact h
  | some ls =>
    obtain ⟨b, bs', e, h⟩ := h
    exact ⟨b, bs', e, s _ _ h⟩
theorem at_zero {α : Type} {v : α} {l : List α} : atI (v :: l) 0 = some v := atI_nat (j := 0) rfl
theorem find_snoc {l : List (List Nat × Nat)} {x : List Nat × Nat} {p : List Nat × Nat → Bool} : (l ++ [x]).find? p = (match l.find? p with | some y => some y | none => if p x then some x else none) := by
  rw [List.find?_append]
  cases l.find? p with
  | some y => rfl
  | none =>
    show [x].find? p = _
    by_cases h : p x = true
    · simp [List.find?, h]
    · simp [List.find?, h]
section
variable {P : Program} {w : World} {K : PySem.W.Frag} {mg : Str → Option Value} {base : Heap}
/-! ### fits -/
def spFits (K : PySem.W.Frag) (C : Addr) : Sp := fun vs H Q _ => ∃ (A : RA) (M : Mach) (c : Cfg) (x : Nat), vs = [.ref A.r, .str (S [x])] ∧ Fine M c ∧ RdAt C M A H c ∧
  ∀ (H' : Hp), Same (fr A H) (fr A H') → RdAt C M A H' c → Q (.bl (fits M c x)) H'
abbrev nFits : List Str := ["self", "sign", "found", "pair"]
theorem scFits : FnScope nFits ["self", "sign"] (defScope sFits) := ⟨rfl, rfl, rfl, by decide +kernel, rfl, by decide +kernel, by decide +kernel⟩
theorem ok_fits {C f fI fC fD : Addr} {fd fdI fdC fdD : FuncData} (F : Fun K "fits" "Reader.fits" sFits f fd) (T : Txt K mg C) (Gm : Glb mg) (GI : FnOk P w K mg base CX0 2 fI fdI ["self"] (spInner K C)) (bI : Binds K fdI ["self"] []) (mI : Meth K C "inner_costs" fI)
    (GC : FnOk P w K mg base CX0 3 fC fdC ["self", "head"] (spCheapest K C)) (bC : Binds K fdC ["self", "head"] []) (mC : Meth K C "cheapest" fC) (GD : FnOk P w K mg base CX0 1 fD fdD ["self"] (spCloses K C)) (bD : Binds K fdD ["self"] []) (mD : Meth K C "closes" fD) :
    FnOk P w K mg base CX0 4 f fd ["self", "sign"] (spFits K C) := by
  refine F.ok scFits (fun vs H Q E h => ?_) (fun cdv A0 outer s H vs Q E hr h => ?_)
  · obtain ⟨A, M, c, x, rfl, _⟩ := h
    rfl
  obtain ⟨A, M, c, x, rfl, fn, R, k⟩ := h
  obtain ⟨t1, g1⟩ := Gm.sm
  obtain ⟨t2, g2⟩ := Gm.sw
  obtain ⟨t3, g3⟩ := Gm.mw
  refine ⟨_, pss_cons (ps_if (pt_val (pe_fld (pv 0) rfl)) (pss_one (ps_ret pe_bl)) pss_nil)
    (pss_cons (ps_if (pt_cmpR op_eq (pe_slice sl_str (pe_fld (pv 0) rfl) (po_some (pe_un un_neg pe_int)) po_none) pe_str (nomark _))
      (pss_cons (ps_if (pt_cmpR op_eq (pv 1) pe_str (nomark _)) (pss_one (ps_ret (pe_cmpR op_gt (pe_fld (pv 0) rfl) pe_int (nomark _)))) pss_nil)
        (pss_one (ps_ret (pe_and (pe_cmpR op_in_sign (pv 1) (pe_glob (v := .str "abcdefghijklmnopqrstuvwxyz0123456789") rfl g2 ⟨_, rfl⟩) rfl) (pe_one (pe_cmpR op_lt (pe_fld (pv 0) rfl) (pe_glob (v := .int 60) rfl g3 ⟨_, rfl⟩) (nomark _))))))) pss_nil)
    (pss_cons (ps_if (pt_cmpR op_eq (pv 1) pe_str (nomark _))
      (pss_cons (ps_setLc (i := 2) (own := [("pair", 3)]) (g := gName 3) (tt := tTest (tOp rEq (tOp (rIxT K) (tVar 3) (tC (.int 0))) (tFld K (tVar 0) "head"))) (te := tVar 3) rfl scFits.nd rfl rfl (sw_true rfl rfl rfl (by decide +kernel)) (pi_list (pe_fld (pv 0) rfl)) (blkOk_by (N := nFits) (sc := defScope sFits) (by decide +kernel))
          (fun _ _ _ _ _ => pg_name (i := 3) scFits.nd rfl (Or.inl rfl)) (fun _ _ _ _ _ => pts_one (pt_cmpR op_eq (pe_ix ix_tup (pv 3) pe_int (fun _ _ => rfl)) (pe_fld (pv 0) rfl) (nomark _))) (fun _ _ _ _ _ => pv 3))
        (pss_one (ps_ret (pe_and (pe_cmpR op_gt (pe_callB call_len_seq rfl T.len boot_len (pa_cons (pv 2) pa_nil)) pe_int (nomark _)) (pe_one (pe_cmpR op_notN (pe_ix ix_list (pe_meth0 (pv 0) T.cl mI GI (hr.mono (by decide)) bI .nil pass0) (pe_ix ix_tup (pe_ix ix_list (pv 2) pe_int (fun _ _ => rfl)) pe_int (fun _ _ => rfl)) (fun _ _ => rfl)) pe_non (nomark _))))))) pss_nil)
    (pss_cons (ps_if (pt_cmpR op_eq (pv 1) pe_str (nomark _)) (pss_one (ps_ret (pe_and (pe_cmpR op_eq (pe_fld (pv 0) rfl) pe_str (nomark _)) (pe_one (pe_meth0 (pv 0) T.cl mD GD (hr.mono (by decide)) bD .nil pass0))))) pss_nil)
    (pss_one (ps_ret (pe_and (pe_or (pe_cmpR op_in_sign (pv 1) (pe_glob (v := .str "abcdefghijklmnopqrstuvwxyz") rfl g1 ⟨_, rfl⟩) rfl) (pe_one (pe_cmpR op_eq (pv 1) pe_str (nomark _))))
      (pe_one (pe_cmpR op_notN (pe_meth (pv 0) T.cl mC GC (hr.mono (by decide)) bC .nil pass0 (pa_cons (pe_op op_add_str (pe_fld (pv 0) rfl) (pv 1)) pa_nil)) pe_non (nomark _))))))))), ?_⟩
  obtain ⟨iv, hob, _⟩ := R.ob
  have o := fn.ok
  have h9 := fn.head9
  have hhz : (S c.head).length ≤ sizeLine := by rw [S_len]; exact sz _ (by omega)
  have kk : ∀ b, fits M c x = b → Q (.bl b) H := fun b e => by
    rw [← e]
    exact k H (Same.refl _) R
  refine ⟨_, rfl, A.r, C, A.dx, _, _, rfl, hob, T.cl, T.nWhole, lk_whole _ _ _ _ _, c.whole, rfl, ?_⟩
  unfold fits at kk k
  cases hw : c.whole with
  | true =>
    refine ite_t rfl ?_
    exact kk false (by rw [hw]; rfl)
  | false =>
  refine ite_f rfl ?_
  rw [hw] at kk k
  refine ⟨_, rfl, A.r, C, A.dx, _, _, rfl, hob, T.cl, T.nHead, lk_head _ _ _ _ _, 1, rfl, -1, rfl, S c.head, rfl, hhz, rfl, _, rfl, ?_⟩
  cases hc : colon c.head with
  | true =>
    refine ite_t ((head_colon _).trans hc) ?_
    rw [hc] at kk
    refine ⟨_, rfl, rfl, _, rfl, ?_⟩
    by_cases hx : x = 40
    · refine ite_t ((is40 x).trans (decide_eq_true hx)) ?_
      rw [if_neg Bool.false_ne_true, if_pos rfl, if_pos hx] at kk
      refine ⟨_, rfl, A.r, C, A.dx, _, _, rfl, hob, T.cl, T.nSigns, lk_signs _ _ _ _ _, (c.sg : Int), 0, rfl, rfl, ?_⟩
      refine (?_ : Q (.bl (decide ((0 : Int) < (c.sg : Int)))) H)
      refine kk _ ?_
      by_cases h0 : 0 < c.sg
      · rw [decide_eq_true h0, decide_eq_true (by omega)]
      · rw [decide_eq_false h0, decide_eq_false (by omega)]
    · refine ite_f ((is40 x).trans (decide_eq_false hx)) ?_
      rw [if_neg Bool.false_ne_true, if_pos rfl, if_neg hx] at kk
      refine ⟨_, rfl, x, _, rfl, rfl, _, rfl, ?_⟩
      have e1 : decide (x ∈ ("abcdefghijklmnopqrstuvwxyz0123456789" : Str).cps.toList) = decide (x ∈ wsigns) := by rw [wsign_str]; rfl
      rw [e1]
      cases hxw : decide (x ∈ wsigns) with
      | false =>
        refine ite_f rfl ?_
        exact kk false (by rw [hxw]; rfl)
      | true =>
        refine ⟨_, rfl, A.r, C, A.dx, _, _, rfl, hob, T.cl, T.nSigns, lk_signs _ _ _ _ _, (c.sg : Int), 60, rfl, rfl, ?_⟩
        refine (?_ : Q (.bl (decide ((c.sg : Int) < 60))) H)
        refine kk _ ?_
        rw [hxw, Bool.true_and]
        by_cases h0 : c.sg < 60
        · rw [decide_eq_true h0, decide_eq_true (by omega)]
        · rw [decide_eq_false h0, decide_eq_false (by omega)]
  | false =>
  refine ite_f ((head_colon _).trans hc) ?_
  rw [hc, if_neg Bool.false_ne_true, if_neg Bool.false_ne_true] at kk k
  refine ⟨_, rfl, rfl, _, rfl, ?_⟩
  by_cases hx : x = 40
  · refine ite_t ((is40 x).trans (decide_eq_true hx)) ?_
    rw [if_pos hx] at kk k
    obtain ⟨as, hS1, hS2, hS3⟩ := id R.imm.starts
    refine ⟨_, rfl, A.r, C, A.dx, _, _, rfl, hob, T.cl, T.nStarts, lk_starts _ _ _ _ _, A.aS, rfl, ⟨_, SqL.of (mns_same _ _ _ _ hS1)⟩, fun D hD => ?_⟩
    refine lc_list (K := K) (a := A.aS) (xs := as.map V.ref) (fun j H' => ∃ acc, H' = upd H D (.lst acc) ∧ acc.length ≤ j ∧ FoundAt H acc ((M.starts.take j).find? fun ls => ls.1 == c.head)) ⟨[], rfl, Nat.le_refl _, rfl⟩ (fun j H' _ ⟨acc, e, _⟩ => ?_) (fun j y H' hj ⟨acc, e, hal, hf⟩ => ?_) (fun H' ⟨acc, e, hal, hf⟩ => ?_)
    · rw [e]
      exact SqL.of (same_new hD _ _ _ (mns_same _ _ _ _ hS1))
    · obtain ⟨b, l, st, rfl, ep, hb⟩ : ∃ (b : Addr) (l : List Nat) (st : Nat), y = V.ref b ∧ M.starts[j]? = some (l, st) ∧ H b = some (.tup [.str (S l), nV st]) := by
        have hia : j < as.length := by
          have q := (List.getElem?_eq_some_iff.mp hj).1
          rw [List.length_map] at q
          exact q
        have his : j < M.starts.length := by rw [← hS2]; exact hia
        rw [getMap (List.getElem?_eq_getElem hia)] at hj
        exact ⟨as[j], M.starts[j].1, M.starts[j].2, (Option.some.inj hj).symm, List.getElem?_eq_getElem his, mns_same _ _ _ _ (hS3 j _ _ (List.getElem?_eq_getElem hia) (List.getElem?_eq_getElem his))⟩
      have hjz : j < 100000 := by
        have := (List.getElem?_eq_some_iff.mp ep).1
        have := fn.sl
        omega
      have sn := same_new hD (.lst acc)
      rw [← e] at sn
      refine ⟨wipe_own _ 3 _, _, rfl, b, _, _, _, rfl, rfl, SqT.of (sn _ _ hb), rfl, _, rfl, A.r, C, A.dx, _, _, rfl, sn _ _ hob, T.cl, T.nHead, lk_head _ _ _ _ _, rfl, _, rfl, ?_⟩
      have efind : (M.starts.take (j + 1)).find? (fun ls => ls.1 == c.head) = (match (M.starts.take j).find? (fun ls => ls.1 == c.head) with | some y => some y | none => if (l == c.head) then some (l, st) else none) := by
        rw [List.take_add_one, ep]
        exact find_snoc
      rw [efind]
      cases hl : (l == c.head) with
      | false =>
        refine ite_f ((str_eq _ _).trans hl) ?_
        refine ⟨acc, e, by omega, ?_⟩
        cases ef : (M.starts.take j).find? (fun ls => ls.1 == c.head) with
        | none => rw [ef] at hf; exact hf
        | some z => rw [ef] at hf; exact hf
      | true =>
        refine ite_t ((str_eq _ _).trans hl) ?_
        refine ⟨_, rfl, acc, by rw [e]; exact upd_same, szl _ (by omega), acc ++ [.ref b], by rw [e, upd_upd], by rw [List.length_append]; simp; omega, ?_⟩
        cases ef : (M.starts.take j).find? (fun ls => ls.1 == c.head) with
        | none =>
          rw [ef] at hf
          have hf : acc = [] := hf
          rw [hf]
          exact ⟨b, [], rfl, hb⟩
        | some z =>
          rw [ef] at hf
          obtain ⟨b0, bs', e0, h0⟩ := hf
          rw [e0]
          exact ⟨b0, bs' ++ [.ref b], rfl, h0⟩
    · have esl : (as.map V.ref).length = M.starts.length := by rw [List.length_map, hS2]
      rw [esl, List.take_length] at hf
      have sn := same_new hD (.lst acc)
      rw [← e] at sn
      have R1 := R.same sn
      have hDa : H' D = some (.lst acc) := by rw [e]; exact upd_same
      refine ⟨_, rfl, D, _, rfl, .inl (SqL.of hDa), _, 0, rfl, rfl, ?_⟩
      cases ef : M.starts.find? (fun ls => ls.1 == c.head) with
      | none =>
        rw [ef] at hf
        have hf : acc = [] := hf
        subst hf
        refine ⟨_, rfl, ?_⟩
        refine ite_f rfl ?_
        have eo : opens M c = false := by unfold opens state0; rw [ef]; rfl
        rw [eo] at k
        exact k H' (mns_mono _ sn) R1
      | some ls =>
        rw [ef] at hf
        obtain ⟨b, bs', e0, hb⟩ := hf
        subst e0
        refine ⟨_, rfl, ?_⟩
        refine ite_t (decide_eq_true (by simp)) ?_
        obtain ⟨iv1, hob1, _⟩ := R1.ob
        refine ⟨_, rfl, A.r, A.dx, _, rfl, hob1, lk_m1 _ _ _ _ _, A, M, c, rfl, o, fn.n, fn.rng, R1, fun kb H2 s12 R2 hk2 => ?_⟩
        have hDf : fr A H' D = some (.lst (.ref b :: bs')) := fr_out (R.new hD) hDa
        have hbf : fr A H' b = some (.tup [.str (S ls.1), nV ls.2]) := fr_out (R.ntup hb) (sn _ _ hb)
        have hst := (o.sl ls.1 ls.2 (by
          have := List.mem_of_find?_eq_some ef
          exact this)).2.2
        have hks := ar_at (X := KC M c.sts) (t := ls.2) (by rw [(K_inv o _).len]; exact hst)
        refine ⟨_, rfl, D, _, 0, _, rfl, rfl, SqL.of (mns_same _ _ _ _ (s12 _ _ hDf)), at_zero, b, _, _, _, rfl, rfl, SqT.of (mns_same _ _ _ _ (s12 _ _ hbf)), rfl, kb, _, _, _, rfl, rfl, SqL.of (mns_same _ _ _ _ hk2), hks, rfl, ?_⟩
        refine (?_ : Q (.bl (!decide (oV (g (KC M c.sts) ls.2) = V.non))) H2)
        have eo : opens M c = (!decide (oV (g (KC M c.sts) ls.2) = V.non)) := by
          unfold opens state0
          rw [ef, oV_non]
          show (g (KC M c.sts) ls.2).isSome = _
          cases g (KC M c.sts) ls.2 <;> rfl
        rw [← eo]
        exact k H2 ((mns_mono _ sn).trans s12) R2
  refine ite_f ((is40 x).trans (decide_eq_false hx)) ?_
  rw [if_neg hx] at kk k
  refine ⟨_, rfl, rfl, _, rfl, ?_⟩
  by_cases hy : x = 41
  · refine ite_t ((is41 x).trans (decide_eq_true hy)) ?_
    rw [if_pos hy] at kk k
    refine ⟨_, rfl, A.r, C, A.dx, _, _, rfl, hob, T.cl, T.nHead, lk_head _ _ _ _ _, rfl, _, rfl, ?_⟩
    cases hh : (c.head == []) with
    | false =>
      refine ite_f ((isNil _).trans hh) ?_
      exact kk false (by rw [hh]; rfl)
    | true =>
      refine ite_t ((isNil _).trans hh) ?_
      refine ⟨_, rfl, A.r, A.dx, _, rfl, hob, lk_m3 _ _ _ _ _, A, M, c, rfl, o, fn.rng, R, ?_⟩
      exact kk _ (by rw [hh]; rfl)
  refine ite_f ((is41 x).trans (decide_eq_false hy)) ?_
  rw [if_neg hy] at kk k
  have hcat : (S c.head).length + (S [x]).length ≤ sizeLine := by rw [S_len, S_len]; exact sz _ (by simp; omega)
  refine ⟨_, rfl, x, _, rfl, rfl, _, rfl, ?_⟩
  have e1 : decide (x ∈ ("abcdefghijklmnopqrstuvwxyz" : Str).cps.toList) = decide (x ∈ smalls) := by rw [small_str]; rfl
  by_cases hs : x ∈ smalls
  · refine ite_t (e1.trans (decide_eq_true hs)) ?_
    rw [decide_eq_true hs] at k
    refine ⟨_, rfl, ?_⟩
    · obtain ⟨iv, hob, _⟩ := R.ob
      refine ite_t rfl ?_
      obtain ⟨iv, hob, _⟩ := R.ob
      refine ⟨_, rfl, A.r, A.dx, _, rfl, hob, lk_m2 _ _ _ _ _, _, rfl, A.r, C, A.dx, _, _, rfl, hob, T.cl, T.nHead, lk_head _ _ _ _ _, _, rfl, S c.head, S [x], rfl, rfl, hcat, ?_⟩
      refine ⟨A, M, c, c.head ++ [x], by rw [S_app]; rfl, o, fn.n, fn.rng, by rw [List.length_append]; simp; omega, R, fun v H2 s2 R2 B2 => ⟨rfl, ?_⟩⟩
      refine (?_ : Q (.bl (!decide (v = V.non))) H2)
      have ev : (!decide (v = V.non)) = (cheap M c (c.head ++ [x])).isSome := by
        cases ec : cheap M c (c.head ++ [x]) with
        | none =>
          rw [ec] at B2
          have B2 : v = .non := B2
          rw [B2]
          rfl
        | some b =>
          rw [ec] at B2
          obtain ⟨t, e, _⟩ := B2
          rw [e]
          rfl
      rw [ev]
      exact k H2 s2 R2
  · refine ite_f (e1.trans (decide_eq_false hs)) ?_
    rw [decide_eq_false hs] at k kk
    refine ⟨_, rfl, rfl, _, rfl, ?_⟩
    by_cases h58 : x = 58
    · refine ite_t ((is58 x).trans (decide_eq_true h58)) ?_
      have h58' : (x == 58) = true := by simpa using h58
      rw [h58'] at k
      obtain ⟨iv, hob, _⟩ := R.ob
      refine ⟨_, rfl, A.r, A.dx, _, rfl, hob, lk_m2 _ _ _ _ _, _, rfl, A.r, C, A.dx, _, _, rfl, hob, T.cl, T.nHead, lk_head _ _ _ _ _, _, rfl, S c.head, S [x], rfl, rfl, hcat, ?_⟩
      refine ⟨A, M, c, c.head ++ [x], by rw [S_app]; rfl, o, fn.n, fn.rng, by rw [List.length_append]; simp; omega, R, fun v H2 s2 R2 B2 => ⟨rfl, ?_⟩⟩
      refine (?_ : Q (.bl (!decide (v = V.non))) H2)
      have ev : (!decide (v = V.non)) = (cheap M c (c.head ++ [x])).isSome := by
        cases ec : cheap M c (c.head ++ [x]) with
        | none =>
          rw [ec] at B2
          have B2 : v = .non := B2
          rw [B2]
          rfl
        | some b =>
          rw [ec] at B2
          obtain ⟨t, e, _⟩ := B2
          rw [e]
          rfl
      rw [ev]
      exact k H2 s2 R2
    · refine ite_f ((is58 x).trans (decide_eq_false h58)) ?_
      have h58' : (x == 58) = false := by simpa using h58
      rw [h58'] at kk
      exact kk false rfl
end
end Wd
namespace Wd
open PySem L2
open TL (tl tl_append ext_tl mk_tl partition_app partition_none len_tl)
section
variable {C : Addr} {M : Mach} {A : RA} {H : Hp} {c : Cfg}
theorem mem_mut {b : Addr} : b ∈ A.mut ↔ b = A.r ∨ b = A.aSt ∨ b = A.aC := by
  unfold RA.mut
  simp
/-- the reader stands anew: r, the states, the costs were written, all else is as it was -/
theorem RdAt.put (R : RdAt C M A H c) {H' : Hp} {c' : Cfg} (e : fr A H' = fr A H) (d1 : H' A.r = some (.ins C A.dx (rfs A .non c'.head c'.sg c'.whole))) (d2 : H' A.aSt = some (.lst (c'.sts.reverse.map nV))) (d3 : ∃ cs : List Addr, H' A.aC = some (.lst (cs.map V.ref)) ∧ CostsAt M (fr A H) c'.sts cs.reverse) :
    RdAt C M A H' c' := by
  obtain ⟨cs, h1, h2⟩ := d3
  exact ⟨R.d1, by rw [e]; exact R.imm, ⟨_, d1, .inl rfl⟩, d2, cs, h1, by rw [e]; exact h2⟩
end
section
variable {C : Addr} {M : Mach} {A : RA} {H : Hp} {c : Cfg}
theorem RdAt.setHead (R : RdAt C M A H c) {iv : V} (hob : H A.r = some (.ins C A.dx (rfs A iv c.head c.sg c.whole))) (h : List Nat) (n : Nat) :
    RdAt C M A (upd H A.r (.ins C A.dx (rfs A iv h n c.whole))) ⟨c.sts, h, n, c.whole⟩ := by
  obtain ⟨iv', h1, h2⟩ := R.ob
  obtain ⟨cs, h3, h4⟩ := R.co
  have e : fr A (upd H A.r (.ins C A.dx (rfs A iv h n c.whole))) = fr A H := mns_upd mem_r
  have ei : iv' = iv := by
    have q := h1.symm.trans hob
    have q2 := congrArg (fun o : Option HO => match o with | some (.ins _ _ fs) => fs.lookup ("inner" : Str) | _ => none) q
    have q3 : (rfs A iv' c.head c.sg c.whole).lookup ("inner" : Str) = (rfs A iv c.head c.sg c.whole).lookup ("inner" : Str) := q2
    rw [lk_inner, lk_inner] at q3
    exact Option.some.inj q3
  rw [ei] at h2
  exact ⟨R.d1, by rw [e]; exact R.imm, ⟨iv, upd_same, by rw [e]; exact h2⟩, by rw [upd_ne R.nrSt.symm]; exact R.st, cs, by rw [upd_ne R.nrC.symm]; exact h3, by rw [e]; exact h4⟩
theorem fr_eq {H H' : Hp} (h : ∀ b, b ≠ A.r → b ≠ A.aSt → b ≠ A.aC → H' b = H b) : fr A H' = fr A H := by
  funext b
  by_cases hb : b ∈ A.mut
  · show mns H' A.mut b = mns H A.mut b
    rw [mns_in hb, mns_in hb]
  · show mns H' A.mut b = mns H A.mut b
    rw [mns_out hb, mns_out hb]
    exact h b (fun e => hb (mem_mut.mpr (.inl e))) (fun e => hb (mem_mut.mpr (.inr (.inl e)))) (fun e => hb (mem_mut.mpr (.inr (.inr e))))
theorem costs_len {M : Mach} {H : Hp} : ∀ {l : List Nat} {as : List Addr}, CostsAt M H l as → as.length = l.length
  | [], _, h => by rw [show _ = ([] : List Addr) from h]
  | _ :: _, _ :: _, h => by
    have := costs_len h.2
    simp only [List.length_cons]
    omega
/-- what a search for a label's state finds -/
def VFound (acc : List V) : Option (List Nat × Nat) → Prop
  | none => acc = []
  | some ls => ∃ r, acc = nV ls.2 :: r
theorem last_of {xs : List V} {v : V} : (xs ++ [v])[(xs ++ [v]).length - 1]? = some v := by simp
end
section
variable {P : Program} {w : World} {K : PySem.W.Frag} {mg : Str → Option Value} {base : Heap}
/-! ### take -/
def spTake (K : PySem.W.Frag) (C : Addr) : Sp := fun vs H Q _ => ∃ (A : RA) (M : Mach) (c : Cfg) (x : Nat), vs = [.ref A.r, .str (S [x])] ∧ Fine M c ∧ c.sts.length ≤ 10000 ∧ fits M c x = true ∧ RdAt C M A H c ∧
  ∀ (H' : Hp), Same (fr A H) (fr A H') → RdAt C M A H' (take M c x) → Q .non H'
abbrev nTake : List Str := ["self", "sign", "state", "pair"]
theorem scTake : FnScope nTake ["self", "sign"] (defScope sTake) := ⟨rfl, rfl, rfl, by decide +kernel, rfl, by decide +kernel, by decide +kernel⟩
theorem ok_take {C f fI fF : Addr} {fd fdI fdF : FuncData} (F : Fun K "take" "Reader.take" sTake f fd) (T : Txt K mg C) (GI : FnOk P w K mg base CX0 2 fI fdI ["self"] (spInner K C)) (bI : Binds K fdI ["self"] []) (mI : Meth K C "inner_costs" fI)
    (GF : FnOk P w K mg base CX0 4 fF fdF ["self", "sign"] (spFits K C)) (bF : Binds K fdF ["self", "sign"] []) (mF : Meth K C "fits" fF) :
    FnOk P w K mg base CX0 5 f fd ["self", "sign"] (spTake K C) := by
  refine F.ok scTake (fun vs H Q E h => ?_) (fun cdv A0 outer s H vs Q E hr h => ?_)
  · obtain ⟨A, M, c, x, rfl, _⟩ := h
    rfl
  obtain ⟨A, M, c, x, rfl, fn, hsl, hfit, R, k⟩ := h
  refine ⟨_, pss_cons (ps_if (pt_not (pt_val (pe_meth (pv 0) T.cl mF GF hr bF .nil pass0 (pa_cons (pv 1) pa_nil)))) (pss_one ps_never) pss_nil)
    (pss_one (ps_if (pt_cmpR op_eq (pv 1) pe_str (nomark _))
      (pss_cons (ps_expr (pe_bm PySem.F.plainAttrs_list PySem.F.slot_list_append PySem.F.type_list_append mt_append (pe_fld (pv 0) rfl) (pa_cons (pe_meth0 (pv 0) T.cl mI GI (hr.mono (by decide)) bI .nil pass0) pa_nil)))
      (pss_cons (ps_expr (pe_bm PySem.F.plainAttrs_list PySem.F.slot_list_append PySem.F.type_list_append mt_append (pe_fld (pv 0) rfl) (pa_cons (pe_ix ix_list
          (pe_lc (own := [("pair", 3)]) (g := gName 3) (tt := tTest (tOp rEq (tOp (rIxT K) (tVar 3) (tC (.int 0))) (tFld K (tVar 0) "head"))) (te := tOp (rIxT K) (tVar 3) (tC (.int 1))) rfl scTake.nd (pi_list (pe_fld (pv 0) rfl)) (blkOk_by (N := nTake) (sc := defScope sTake) (by decide +kernel))
            (fun _ _ _ _ _ => pg_name (i := 3) scTake.nd rfl (Or.inl rfl)) (fun _ _ _ _ _ => pts_one (pt_cmpR op_eq (pe_ix ix_tup (pv 3) pe_int (fun _ _ => rfl)) (pe_fld (pv 0) rfl) (nomark _))) (fun _ _ _ _ _ => pe_ix ix_tup (pv 3) pe_int (fun _ _ => rfl)))
          pe_int (fun _ _ => rfl)) pa_nil)))
      (pss_cons (ps_fld (pv 0) pe_non rfl) (pss_cons (ps_fld (pv 0) pe_str rfl) (pss_one (ps_fld (pv 0) pe_int rfl))))))
      (pss_one (ps_if (pt_cmpR op_eq (pv 1) pe_str (nomark _))
        (pss_cons (ps_set (i := 2) scTake.nd rfl (.inl rfl) (pe_bm0 PySem.F.plainAttrs_list PySem.F.slot_list_pop PySem.F.type_list_pop mt_pop (pe_fld (pv 0) rfl)))
        (pss_cons (ps_expr (pe_bm0 PySem.F.plainAttrs_list PySem.F.slot_list_pop PySem.F.type_list_pop mt_pop (pe_fld (pv 0) rfl)))
        (pss_cons (ps_fld (pv 0) pe_non rfl)
        (pss_cons (ps_fld (pv 0) (pe_cmpR op_eq (pe_callB call_len_seq rfl T.len boot_len (pa_cons (pe_fld (pv 0) rfl) pa_nil)) pe_int (nomark _)) rfl)
        (pss_one (ps_if (pt_not (pt_val (pe_fld (pv 0) rfl))) (pss_one (ps_asg (pe_ix ix_list (pe_ix ix_list (pe_fld (pv 0) rfl) (pe_ix ix_list (pe_fld (pv 0) rfl) (pe_un un_neg pe_int) (fun _ _ => rfl)) (fun _ _ => rfl)) (pv 2) (fun _ _ => rfl)) (pg_sub (pe_fld (pv 0) rfl) (pe_un un_neg pe_int) set_list))) pss_nil))))))
        (pss_one (ps_if (pt_cmpR op_eq (pe_slice sl_str (pe_fld (pv 0) rfl) (po_some (pe_un un_neg pe_int)) po_none) pe_str (nomark _))
          (pss_one (ps_fld (pv 0) (pe_op op_add (pe_fld (pv 0) rfl) pe_int) rfl))
          (pss_one (ps_fld (pv 0) (pe_op op_add_str (pe_fld (pv 0) rfl) (pv 1)) rfl)))))))), ?_⟩
  obtain ⟨iv0, hob0, _⟩ := R.ob
  have o := fn.ok
  have h9 := fn.head9
  have hhz : (S c.head).length ≤ sizeLine := by rw [S_len]; exact sz _ (by omega)
  refine ⟨_, rfl, A.r, A.dx, _, rfl, hob0, lk_m4 _ _ _ _ _, _, rfl, A, M, c, x, rfl, fn, R, fun H1 s1 R1 => ⟨_, rfl, ?_⟩⟩
  rw [hfit]
  refine ite_f rfl ?_
  obtain ⟨iv1, hob1, _⟩ := R1.ob
  obtain ⟨hw, hcase⟩ := fits_cases hfit
  refine ⟨_, rfl, rfl, _, rfl, ?_⟩
  by_cases hx : x = 40
  · refine ite_t ((is40 x).trans (decide_eq_true hx)) ?_
    subst hx
    rw [take_open] at k
    obtain ⟨s0', hs0⟩ : ∃ s0', state0 M c.head = some s0' := by
      rcases hcase with ⟨hc, _, _⟩ | ⟨_, h1, _⟩ | ⟨_, _, ho⟩ | ⟨_, h1, _⟩ | ⟨_, h1, _⟩
      · obtain ⟨s0', _, _, e, _⟩ := colon_lab o fn.wf hw hc
        exact ⟨s0', e⟩
      · exact absurd rfl h1
      · obtain ⟨s0', _, e, _⟩ := opens_some ho
        exact ⟨s0', e⟩
      · cases h1
      · exact absurd rfl h1
    rw [hs0] at k
    -- self.costs.append(self.inner_costs())
    obtain ⟨cs1, hc1, _⟩ := R1.co
    refine ⟨_, rfl, A.r, C, A.dx, _, _, rfl, hob1, T.cl, T.nCosts, lk_costs _ _ _ _ _, .inl ⟨rfl, _, SqL.of hc1⟩, _, rfl, A.r, A.dx, _, rfl, hob1, lk_m1 _ _ _ _ _, A, M, c, rfl, o, fn.n, fn.rng, R1, fun kb H2 s12 R2 hk2 => ?_⟩
    obtain ⟨cs2, hc2, hcs2⟩ := R2.co
    obtain ⟨iv2, hob2, _⟩ := R2.ob
    have hl2 : (cs2.map V.ref).length < sizeLine := by
      have := costs_len hcs2
      rw [List.length_reverse] at this
      rw [List.length_map]
      exact szl _ (by omega)
    refine ⟨A.aC, _, _, rfl, rfl, hc2, hl2, ?_⟩
    have nrC := R2.nrC
    have nrSt := R2.nrSt
    have d1 := R2.d1
    obtain ⟨as, hS1, hS2, hS3⟩ := id R2.I.starts
    have hS1' : upd H2 A.aC (.lst (cs2.map V.ref ++ [.ref kb])) A.aS = some (.lst (as.map V.ref)) := by
      rw [upd_ne]
      · exact hS1
      · intro e
        have := R2.imm.starts
        obtain ⟨as', h1, _⟩ := this
        rw [e] at h1
        rw [show fr A H2 A.aC = none from mns_in mem_c] at h1
        cases h1
    have hst3 : upd H2 A.aC (.lst (cs2.map V.ref ++ [.ref kb])) A.aSt = some (.lst (c.sts.reverse.map nV)) := by rw [upd_ne d1]; exact R2.st
    have hob3 : upd H2 A.aC (.lst (cs2.map V.ref ++ [.ref kb])) A.r = some (.ins C A.dx (rfs A iv2 c.head c.sg c.whole)) := by rw [upd_ne nrC]; exact hob2
    -- self.states.append([..][0])
    refine ⟨_, rfl, A.r, C, A.dx, _, _, rfl, hob3, T.cl, T.nStates, lk_states _ _ _ _ _, .inl ⟨rfl, _, SqL.of hst3⟩, _, rfl, A.r, C, A.dx, _, _, rfl, hob3, T.cl, T.nStarts, lk_starts _ _ _ _ _, A.aS, rfl, ⟨_, SqL.of hS1'⟩, fun D hD => ?_⟩
    have hDn : D ≠ A.aC := fun e => by
      rw [e, upd_same] at hD
      cases hD
    have hD2 : H2 D = none := by rw [upd_ne hDn] at hD; exact hD
    have hDm := R2.new hD2
    refine lc_list (K := K) (a := A.aS) (xs := as.map V.ref) (fun j H' => ∃ acc, H' = upd (upd H2 A.aC (.lst (cs2.map V.ref ++ [.ref kb]))) D (.lst acc) ∧ acc.length ≤ j ∧ VFound acc ((M.starts.take j).find? fun ls => ls.1 == c.head)) ⟨[], rfl, Nat.le_refl _, rfl⟩ (fun j H' _ ⟨acc, e, _⟩ => ?_) (fun j y H' hj ⟨acc, e, hal, hf⟩ => ?_) (fun H' ⟨acc, e, hal, hf⟩ => ?_)
    · rw [e]
      exact SqL.of (same_new hD _ _ _ hS1')
    · obtain ⟨b, l, st, rfl, ep, hb⟩ : ∃ (b : Addr) (l : List Nat) (st : Nat), y = V.ref b ∧ M.starts[j]? = some (l, st) ∧ upd H2 A.aC (.lst (cs2.map V.ref ++ [.ref kb])) b = some (.tup [.str (S l), nV st]) := by
        have hia : j < as.length := by
          have q := (List.getElem?_eq_some_iff.mp hj).1
          rw [List.length_map] at q
          exact q
        have his : j < M.starts.length := by rw [← hS2]; exact hia
        rw [getMap (List.getElem?_eq_getElem hia)] at hj
        have hb := hS3 j _ _ (List.getElem?_eq_getElem hia) (List.getElem?_eq_getElem his)
        refine ⟨as[j], M.starts[j].1, M.starts[j].2, (Option.some.inj hj).symm, List.getElem?_eq_getElem his, ?_⟩
        rw [upd_ne]
        · exact hb
        · intro e
          rw [e, hc2] at hb
          cases hb
      have hjz : j < 100000 := by
        have := (List.getElem?_eq_some_iff.mp ep).1
        have := fn.sl
        omega
      have sn := same_new hD (.lst acc)
      rw [← e] at sn
      refine ⟨wipe_own _ 3 _, _, rfl, b, _, _, _, rfl, rfl, SqT.of (sn _ _ hb), rfl, _, rfl, A.r, C, A.dx, _, _, rfl, sn _ _ hob3, T.cl, T.nHead, lk_head _ _ _ _ _, rfl, _, rfl, ?_⟩
      have efind : (M.starts.take (j + 1)).find? (fun ls => ls.1 == c.head) = (match (M.starts.take j).find? (fun ls => ls.1 == c.head) with | some y => some y | none => if (l == c.head) then some (l, st) else none) := by
        rw [List.take_add_one, ep]
        exact find_snoc
      rw [efind]
      cases hl : (l == c.head) with
      | false =>
        refine ite_f ((str_eq _ _).trans hl) ?_
        refine ⟨acc, e, by omega, ?_⟩
        cases ef : (M.starts.take j).find? (fun ls => ls.1 == c.head) with
        | none => rw [ef] at hf; exact hf
        | some z => rw [ef] at hf; exact hf
      | true =>
        refine ite_t ((str_eq _ _).trans hl) ?_
        refine ⟨_, rfl, b, _, 1, _, rfl, rfl, SqT.of (sn _ _ hb), rfl, acc, by rw [e]; exact upd_same, szl _ (by omega), acc ++ [nV st], by rw [e, upd_upd], by rw [List.length_append]; simp; omega, ?_⟩
        cases ef : (M.starts.take j).find? (fun ls => ls.1 == c.head) with
        | none =>
          rw [ef] at hf
          have hf : acc = [] := hf
          rw [hf]
          exact ⟨[], rfl⟩
        | some z =>
          rw [ef] at hf
          obtain ⟨r, e0⟩ := hf
          rw [e0]
          exact ⟨r ++ [nV st], rfl⟩
    · have esl : (as.map V.ref).length = M.starts.length := by rw [List.length_map, hS2]
      rw [esl, List.take_length] at hf
      have hacc : ∃ r, acc = nV s0' :: r := by
        unfold state0 at hs0
        cases ef : M.starts.find? (fun ls => ls.1 == c.head) with
        | none => rw [ef] at hs0; cases hs0
        | some z =>
          rw [ef] at hs0 hf
          have e : z.2 = s0' := Option.some.inj hs0
          rw [← e]
          exact hf
      obtain ⟨rr, hacc⟩ := hacc
      have hDa : H' D = some (.lst acc) := by rw [e]; exact upd_same
      rw [hacc] at hDa
      have nDr : A.r ≠ D := fun z => hDm (mem_mut.mpr (.inl z.symm))
      have nDSt : A.aSt ≠ D := fun z => hDm (mem_mut.mpr (.inr (.inl z.symm)))
      have nDC : A.aC ≠ D := fun z => hDm (mem_mut.mpr (.inr (.inr z.symm)))
      have hst4 : H' A.aSt = some (.lst (c.sts.reverse.map nV)) := by rw [e, upd_ne nDSt]; exact hst3
      have hob4 : H' A.r = some (.ins C A.dx (rfs A iv2 c.head c.sg c.whole)) := by rw [e, upd_ne nDr]; exact hob3
      have hc4 : H' A.aC = some (.lst (cs2.map V.ref ++ [.ref kb])) := by rw [e, upd_ne nDC]; exact upd_same
      refine ⟨D, _, 0, _, rfl, rfl, SqL.of hDa, at_zero, A.aSt, _, _, rfl, rfl, hst4, (by rw [List.length_map, List.length_reverse]; exact szl _ (by omega)), ?_⟩
      -- self.inner = None; self.head = ''; self.signs = 0
      refine ⟨_, rfl, A.r, C, A.dx, _, rfl, (by rw [upd_ne nrSt]; exact hob4), T.cl, T.nInner, (by show 10 < 1000; decide), ?_⟩
      rw [put_inner]
      refine ⟨_, rfl, A.r, C, A.dx, _, rfl, upd_same, T.cl, T.nHead, (by show 10 < 1000; decide), ?_⟩
      rw [str_nil, put_head]
      refine ⟨_, rfl, A.r, C, A.dx, _, rfl, upd_same, T.cl, T.nSigns, (by show 10 < 1000; decide), ?_⟩
      rw [show V.int 0 = nV 0 from rfl, put_signs]
      rw [upd_upd, upd_upd]
      have sD := same_new hD2 (.lst acc)
      have RD := R2.same sD
      have efr : fr A (upd (upd H' A.aSt (.lst (c.sts.reverse.map nV ++ [nV s0']))) A.r (.ins C A.dx (rfs A .non [] 0 c.whole))) = fr A (upd H2 D (.lst acc)) := fr_eq fun b h1 h2 h3 => by
        rw [upd_ne h1, upd_ne h2, e]
        by_cases hb : b = D
        · rw [hb, upd_same, upd_same]
        · rw [upd_ne hb, upd_ne hb, upd_ne h3]
      refine k _ ?_ ?_
      · rw [efr]
        exact (s1.trans s12).trans (mns_mono _ sD)
      · refine RdAt.put RD efr upd_same ?_ ⟨cs2 ++ [kb], ?_, ?_⟩
        · rw [upd_ne nrSt.symm, upd_same]
          show some (HO.lst _) = some (HO.lst ((s0' :: c.sts).reverse.map nV))
          rw [List.reverse_cons, List.map_append]
          rfl
        · rw [upd_ne nrC.symm, upd_ne d1.symm, hc4, List.map_append]
          rfl
        · rw [List.reverse_append]
          exact ⟨mns_mono _ sD _ _ hk2, hcs2.mono (mns_mono _ sD)⟩
  refine ite_f ((is40 x).trans (decide_eq_false hx)) ?_
  refine ⟨_, rfl, rfl, _, rfl, ?_⟩
  by_cases hy : x = 41
  · refine ite_t ((is41 x).trans (decide_eq_true hy)) ?_
    subst hy
    obtain ⟨hh, hcl⟩ : c.head = [] ∧ closes M c = true := by
      rcases hcase with ⟨_, h1, _⟩ | ⟨_, _, h2, _⟩ | ⟨_, h1, _⟩ | ⟨_, _, h1, h2⟩ | ⟨_, _, h1, _⟩
      · cases h1
      · exact absurd rfl (wsign_ne h2).2.1
      · cases h1
      · exact ⟨h1, h2⟩
      · exact absurd rfl h1
    cases hs : c.sts with
    | nil => unfold closes at hcl; rw [hs] at hcl; cases hcl
    | cons q r =>
      have nrC := R1.nrC
      have nrSt := R1.nrSt
      have d1 := R1.d1
      obtain ⟨cs1, hc1, hcs1⟩ := R1.co
      have hst1 := R1.st
      have est : c.sts.reverse.map nV = r.reverse.map nV ++ [nV q] := by rw [hs, List.reverse_cons, List.map_append]; rfl
      rw [est] at hst1
      obtain ⟨a1, l1, e1, hl1⟩ : ∃ a1 l1, cs1 = l1 ++ [a1] ∧ CostsAt M (fr A H1) r l1.reverse := by
        rw [hs] at hcs1
        cases e : cs1.reverse with
        | nil => rw [e] at hcs1; exact hcs1.elim
        | cons a l =>
          rw [e] at hcs1
          refine ⟨a, l.reverse, ?_, by rw [List.reverse_reverse]; exact hcs1.2⟩
          have := congrArg List.reverse e
          simpa using this
      have hc1' : H1 A.aC = some (.lst (l1.map V.ref ++ [.ref a1])) := by rw [hc1, e1, List.map_append]; rfl
      -- state = self.states.pop()
      refine ⟨_, rfl, A.r, C, A.dx, _, _, rfl, hob1, T.cl, T.nStates, lk_states _ _ _ _ _, .inl ⟨rfl, _, SqL.of hst1⟩, A.aSt, _, nV q, rfl, rfl, hst1, last_of, ?_⟩
      rw [List.dropLast_concat]
      -- self.costs.pop()
      have hc2 : upd H1 A.aSt (.lst (r.reverse.map nV)) A.aC = some (.lst (l1.map V.ref ++ [.ref a1])) := by rw [upd_ne d1.symm]; exact hc1'
      have hob2 : upd H1 A.aSt (.lst (r.reverse.map nV)) A.r = some (.ins C A.dx (rfs A iv1 c.head c.sg c.whole)) := by rw [upd_ne nrSt]; exact hob1
      refine ⟨_, rfl, A.r, C, A.dx, _, _, rfl, hob2, T.cl, T.nCosts, lk_costs _ _ _ _ _, .inl ⟨rfl, _, SqL.of hc2⟩, A.aC, _, .ref a1, rfl, rfl, hc2, last_of, ?_⟩
      rw [List.dropLast_concat]
      -- self.inner = None
      refine ⟨_, rfl, A.r, C, A.dx, _, rfl, (by rw [upd_ne nrC]; exact hob2), T.cl, T.nInner, (by show 10 < 1000; decide), ?_⟩
      rw [put_inner]
      -- self.whole = len(self.states) == 0
      have hst3 : ∀ o : HO, upd (upd (upd H1 A.aSt (.lst (r.reverse.map nV))) A.aC (.lst (l1.map V.ref))) A.r o A.aSt = some (.lst (r.reverse.map nV)) := fun o => by rw [upd_ne nrSt.symm, upd_ne d1, upd_same]
      have hc3 : ∀ o : HO, upd (upd (upd H1 A.aSt (.lst (r.reverse.map nV))) A.aC (.lst (l1.map V.ref))) A.r o A.aC = some (.lst (l1.map V.ref)) := fun o => by rw [upd_ne nrC.symm, upd_same]
      have efr : ∀ o : HO, fr A (upd (upd (upd H1 A.aSt (.lst (r.reverse.map nV))) A.aC (.lst (l1.map V.ref))) A.r o) = fr A H1 := fun o => fr_eq fun b h1 h2 h3 => by rw [upd_ne h1, upd_ne h3, upd_ne h2]
      refine ⟨_, rfl, A.r, C, A.dx, _, _, rfl, upd_same, T.cl, T.nStates, lk_states _ _ _ _ _, A.aSt, _, rfl, .inl (SqL.of (hst3 _)), rfl, _, rfl, A.r, C, A.dx, _, rfl, upd_same, T.cl, T.nWhole, (by show 10 < 1000; decide), ?_⟩
      rw [put_whole, upd_upd]
      refine ⟨_, rfl, A.r, C, A.dx, _, _, rfl, upd_same, T.cl, T.nWhole, lk_whole _ _ _ _ _, _, rfl, ?_⟩
      have hlen : ((r.reverse.map nV).length : Int) = (r.length : Int) := by rw [List.length_map, List.length_reverse]
      cases r with
      | nil =>
        rw [take_close1 hs] at k
        refine ite_f rfl ?_
        refine k _ ?_ ?_
        · rw [efr]
          exact s1
        · exact RdAt.put R1 (efr _) upd_same (hst3 _) ⟨l1, hc3 _, hl1⟩
      | cons p r =>
        rw [take_close2 hs] at k
        have ew : decide (V.int (((p :: r).reverse.map nV).length : Int) = V.int 0) = false := by
          rw [hlen, int_eq]
          exact decide_eq_false (by simp; omega)
        have ewr : ∀ o1 o2, upd (upd (upd H1 A.aSt (.lst ((p :: r).reverse.map nV))) A.aC (.lst (l1.map V.ref))) A.r (.ins C A.dx (rfs A .non c.head c.sg (decide (V.int (((p :: r).reverse.map nV).length : Int) = V.int 0)))) = upd (upd (upd H1 A.aSt (.lst ((p :: r).reverse.map nV))) A.aC (.lst (l1.map V.ref))) A.r (.ins C A.dx (rfs A .non c.head c.sg false)) := fun (o1 o2 : Unit) => by rw [ew]
        rw [ewr () ()]
        refine ite_t (by rw [ew]; rfl) ?_
        have I := R1.I
        have hp : p < M.n := fn.rng p (by rw [hs]; simp)
        have hq : q < M.n := fn.rng q (by rw [hs]; simp)
        obtain ⟨row, hr1, hr2, hr3⟩ := o.st_get hp hq
        have I4 : Imm M A (fr A H1) := R1.imm
        obtain ⟨rs, b, hb1, hb2, hb3⟩ := I4.steps.get hr1
        have up : ∀ (a : Addr) (o o' : HO), fr A H1 a = some o → upd (upd (upd H1 A.aSt (.lst ((p :: r).reverse.map nV))) A.aC (.lst (l1.map V.ref))) A.r o' a = some o := fun a o o' h => by
          have := mns_same (upd (upd (upd H1 A.aSt (.lst ((p :: r).reverse.map nV))) A.aC (.lst (l1.map V.ref))) A.r o') A.mut a o
          exact this (by rw [show mns _ A.mut = fr A H1 from efr o']; exact h)
        have est2 : (p :: r).reverse.map nV = r.reverse.map nV ++ [nV p] := by rw [List.reverse_cons, List.map_append]; rfl
        refine ⟨_, rfl, A.r, C, A.dx, _, _, rfl, upd_same, T.cl, T.nSteps, lk_steps _ _ _ _ _, _, rfl, A.r, C, A.dx, _, _, rfl, upd_same, T.cl, T.nStates, lk_states _ _ _ _ _, 1, rfl, A.aSt, _, _, _, rfl, rfl, SqL.of (hst3 _), states_at rfl,
          A.aT, rs, _, _, rfl, rfl, SqL.of (up _ _ _ hb1), hb2, _, rfl, b, _, _, _, rfl, rfl, SqL.of (up _ _ _ hb3), atI_nat (nat_at hr3),
          _, rfl, A.r, C, A.dx, _, _, rfl, upd_same, T.cl, T.nStates, lk_states _ _ _ _ _, 1, rfl, A.aSt, _, -1, r.length, rfl, rfl, hst3 _, ?_, ?_⟩
        · have hL : ((p :: r).reverse.map nV).length = r.length + 1 := by simp
          unfold ixN
          rw [hL, if_neg (by decide), if_pos (by omega)]
          congr 1
          omega
        · have hset : ((p :: r).reverse.map nV).set r.length (nV (M.st p q)) = (M.st p q :: r).reverse.map nV := by
            rw [est2, List.reverse_cons, List.map_append, List.set_append_right _ _ (by simp)]
            simp
          rw [hset]
          have efr2 : fr A (upd (upd (upd (upd H1 A.aSt (.lst ((p :: r).reverse.map nV))) A.aC (.lst (l1.map V.ref))) A.r (.ins C A.dx (rfs A .non c.head c.sg false))) A.aSt (.lst ((M.st p q :: r).reverse.map nV))) = fr A H1 := fr_eq fun b h1 h2 h3 => by rw [upd_ne h2, upd_ne h1, upd_ne h3, upd_ne h2]
          refine k _ ?_ ?_
          · rw [efr2]
            exact s1
          · refine RdAt.put R1 efr2 (by rw [upd_ne nrSt, upd_same]) upd_same ⟨l1, by rw [upd_ne d1.symm]; exact hc3 _, ?_⟩
            cases e : l1.reverse with
            | nil => rw [e] at hl1; exact hl1.elim
            | cons a l =>
              rw [e] at hl1
              exact hl1
  refine ite_f ((is41 x).trans (decide_eq_false hy)) ?_
  refine ⟨_, rfl, A.r, C, A.dx, _, _, rfl, hob1, T.cl, T.nHead, lk_head _ _ _ _ _, 1, rfl, -1, rfl, S c.head, rfl, hhz, rfl, _, rfl, ?_⟩
  cases hc : colon c.head with
  | true =>
    refine ite_t ((head_colon _).trans hc) ?_
    rw [take_colon hc hx hy] at k
    refine ⟨_, rfl, A.r, C, A.dx, _, _, rfl, hob1, T.cl, T.nSigns, lk_signs _ _ _ _ _, (c.sg : Int), 1, rfl, rfl, _, rfl, A.r, C, A.dx, _, rfl, hob1, T.cl, T.nSigns, (by show 10 < 1000; decide), ?_⟩
    have e : putF "signs" (V.int ((c.sg : Int) + 1)) (rfs A iv1 c.head c.sg c.whole) = rfs A iv1 c.head (c.sg + 1) c.whole := put_signs A iv1 c.head c.sg c.whole (c.sg + 1)
    rw [e]
    refine k _ ?_ (R1.setHead hob1 c.head (c.sg + 1))
    rw [show fr A (upd H1 A.r _) = fr A H1 from mns_upd mem_r]
    exact s1
  | false =>
    refine ite_f ((head_colon _).trans hc) ?_
    rw [take_head hc hx hy] at k
    have hcat : (S c.head).length + (S [x]).length ≤ sizeLine := by rw [S_len, S_len]; exact sz _ (by simp; omega)
    refine ⟨_, rfl, A.r, C, A.dx, _, _, rfl, hob1, T.cl, T.nHead, lk_head _ _ _ _ _, _, rfl, S c.head, S [x], rfl, rfl, hcat, _, rfl, A.r, C, A.dx, _, rfl, hob1, T.cl, T.nHead, (by show 10 < 1000; decide), ?_⟩
    rw [S_app, put_head]
    refine k _ ?_ (R1.setHead hob1 (c.head ++ [x]) c.sg)
    rw [show fr A (upd H1 A.r _) = fr A H1 from mns_upd mem_r]
    exact s1
end
end Wd
namespace Wd
open PySem L2
open TL (tl tl_append ext_tl mk_tl partition_app partition_none len_tl)
theorem hint_best {M : Mach} {c : Cfg} {m : Nat} (fn : Fine M c) (hw : c.whole = false) (hl : left M c = some m) (hc : cheap M c c.head = none) : c.head = [] ∧ c.sts ≠ [] ∧ closes M c = true := by
  by_cases hh : c.head ≠ [] ∨ c.sts = []
  · rw [left_head hw hh, hc] at hl
    cases hl
  · have h1 : c.head = [] := Classical.byContradiction fun z => hh (.inl z)
    refine ⟨h1, fun z => hh (.inr z), ?_⟩
    cases hs : c.sts with
    | nil => exact absurd (.inr hs) hh
    | cons p r =>
      rw [left_open hw h1 hs] at hl
      rcases best_le_left fn.ok hs hl with ⟨d, hd, _⟩ | ⟨l, e⟩
      · unfold closes
        rw [hs]
        show (g (cl M r) p).isSome = true
        rw [hd]
        rfl
      · rw [h1] at hc
        rw [hc] at e
        cases e
section
variable {P : Program} {w : World} {K : PySem.W.Frag} {mg : Str → Option Value} {base : Heap}
/-! ### left -/
def spLeft (K : PySem.W.Frag) (C : Addr) : Sp := fun vs H Q _ => ∃ (A : RA) (M : Mach) (c : Cfg), vs = [.ref A.r] ∧ Fine M c ∧ RdAt C M A H c ∧
  ∀ (H' : Hp), Same (fr A H) (fr A H') → RdAt C M A H' c → Q (oV (left M c)) H'
theorem scLeft : FnScope ["self", "best"] ["self"] (defScope sLeft) := ⟨rfl, rfl, rfl, by decide +kernel, rfl, by decide +kernel, by decide +kernel⟩
theorem ok_left {C f fC : Addr} {fd fdC : FuncData} (F : Fun K "left" "Reader.left" sLeft f fd) (T : Txt K mg C) (GC : FnOk P w K mg base CX0 3 fC fdC ["self", "head"] (spCheapest K C)) (bC : Binds K fdC ["self", "head"] []) (mC : Meth K C "cheapest" fC) :
    FnOk P w K mg base CX0 4 f fd ["self"] (spLeft K C) := by
  refine F.ok scLeft (fun vs H Q E h => ?_) (fun cdv A0 outer s H vs Q E hr h => ?_)
  · obtain ⟨A, M, c, rfl, _⟩ := h
    rfl
  obtain ⟨A, M, c, rfl, fn, R, k⟩ := h
  refine ⟨_, pss_cons (ps_if (pt_val (pe_fld (pv 0) rfl)) (pss_one (ps_ret pe_int)) pss_nil)
    (pss_cons (ps_if (PW.pt (pw_and (pt_cmpR op_eq (pe_fld (pv 0) rfl) pe_str (nomark _)) (pw_and1 (pt_cmpR op_gt (pe_callB call_len_seq rfl T.len boot_len (pa_cons (pe_fld (pv 0) rfl) pa_nil)) pe_int (nomark _)))))
      (pss_one (ps_ret (pe_ix ix_list (pe_ix ix_list (pe_fld (pv 0) rfl) (pe_un un_neg pe_int) (fun _ _ => rfl)) (pe_ix ix_list (pe_fld (pv 0) rfl) (pe_un un_neg pe_int) (fun _ _ => rfl)) (fun _ _ => rfl)))) pss_nil)
    (pss_cons (ps_set (i := 1) scLeft.nd rfl (.inl rfl) (pe_meth (pv 0) T.cl mC GC hr bC .nil pass0 (pa_cons (pe_fld (pv 0) rfl) pa_nil)))
    (pss_cons (ps_if (pt_cmpR op_isN (pv 1) pe_non (nomark _)) (pss_one (ps_ret pe_non)) pss_nil)
    (pss_one (ps_ret (pe_ix ix_tup (pv 1) pe_int (fun _ _ => rfl))))))), ?_⟩
  obtain ⟨iv, hob, _⟩ := R.ob
  have o := fn.ok
  have h9 := fn.head9
  refine ⟨_, rfl, A.r, C, A.dx, _, _, rfl, hob, T.cl, T.nWhole, lk_whole _ _ _ _ _, c.whole, rfl, ?_⟩
  cases hw : c.whole with
  | true =>
    refine ite_t rfl ?_
    rw [left_whole hw] at k
    exact k H (Same.refl _) R
  | false =>
  refine ite_f rfl ?_
  refine ⟨_, rfl, A.r, C, A.dx, _, _, rfl, hob, T.cl, T.nHead, lk_head _ _ _ _ _, rfl, _, rfl, ?_⟩
  -- the way by the cheapest label
  have tail : (c.head ≠ [] ∨ c.sts = []) → ∀ (v : V) (H' : Hp), Same (fr A H) (fr A H') → RdAt C M A H' c → BestAt (fr A H') v (cheap M c c.head) →
      (v = .non → Q .non H') ∧ ∀ t m l, v = .ref t → cheap M c c.head = some (m, l) → H' t = some (.tup [nV m, .str (S l)]) ∧ Q (nV m) H' := fun hh v H' s' R' B' => by
    rw [left_head hw hh] at k
    refine ⟨fun e => ?_, fun t m l e ec => ?_⟩
    · cases ec : cheap M c c.head with
      | none =>
        rw [ec] at k
        exact k H' s' R'
      | some b =>
        rw [ec] at B'
        obtain ⟨t, e2, _⟩ := B'
        rw [e] at e2
        cases e2
    · rw [ec] at k B'
      obtain ⟨t', e2, h⟩ := B'
      rw [e] at e2
      cases e2
      exact ⟨mns_same _ _ _ _ h, k H' s' R'⟩
  cases hh : (c.head == []) with
  | true =>
    refine ite_t ((isNil _).trans hh) ?_
    have h1 : c.head = [] := by simpa using hh
    refine ⟨_, rfl, A.r, C, A.dx, _, _, rfl, hob, T.cl, T.nStates, lk_states _ _ _ _ _, A.aSt, _, rfl, .inl (SqL.of R.st), _, 0, rfl, rfl, _, rfl, ?_⟩
    cases hs : c.sts with
    | cons p r =>
      refine ite_t (decide_eq_true (by simp)) ?_
      obtain ⟨cs, hC1, hC2⟩ := R.co
      rw [hs] at hC2
      obtain ⟨ac, hc1, hc2⟩ := costs_at hC2
      have hp : p < M.n := fn.rng p (by rw [hs]; simp)
      have hks := ar_at (X := KC M r) (t := p) (by rw [(K_inv o r).len]; exact hp)
      rw [left_open hw h1 hs] at k
      exact ⟨_, rfl, A.r, C, A.dx, _, _, rfl, hob, T.cl, T.nCosts, lk_costs _ _ _ _ _, 1, rfl, A.aC, _, _, _, rfl, rfl, SqL.of hC1, hc1, _, rfl, A.r, C, A.dx, _, _, rfl, hob, T.cl, T.nStates, lk_states _ _ _ _ _, 1, rfl, A.aSt, _, _, _, rfl, rfl, SqL.of R.st, states_at hs,
        ac, _, _, _, rfl, rfl, SqL.of (mns_same _ _ _ _ hc2), hks, k H (Same.refl _) R⟩
    | nil =>
      refine ite_f (decide_eq_false (by simp)) ?_
      refine ⟨_, rfl, A.r, A.dx, _, rfl, hob, lk_m2 _ _ _ _ _, _, rfl, A.r, C, A.dx, _, _, rfl, hob, T.cl, T.nHead, lk_head _ _ _ _ _, A, M, c, c.head, rfl, o, fn.n, fn.rng, by omega, R, fun v H2 s2 R2 B2 => ?_⟩
      obtain ⟨t1, t2⟩ := tail (.inr hs) v H2 s2 R2 B2
      refine ⟨_, rfl, rfl, _, rfl, ?_⟩
      cases ec : cheap M c c.head with
      | none =>
        rw [ec] at B2
        have B2 : v = .non := B2
        subst B2
        refine ite_t rfl ?_
        exact t1 rfl
      | some b =>
        rw [ec] at B2
        obtain ⟨t, e, _⟩ := B2
        subst e
        refine ite_f rfl ?_
        obtain ⟨q1, q2⟩ := t2 t b.1 b.2 rfl ec
        exact ⟨_, rfl, t, _, _, _, rfl, rfl, SqT.of q1, rfl, q2⟩
  | false =>
    refine ite_f ((isNil _).trans hh) ?_
    refine ite_f rfl ?_
    have h1 : c.head ≠ [] := by simpa using hh
    refine ⟨_, rfl, A.r, A.dx, _, rfl, hob, lk_m2 _ _ _ _ _, _, rfl, A.r, C, A.dx, _, _, rfl, hob, T.cl, T.nHead, lk_head _ _ _ _ _, A, M, c, c.head, rfl, o, fn.n, fn.rng, by omega, R, fun v H2 s2 R2 B2 => ?_⟩
    obtain ⟨t1, t2⟩ := tail (.inl h1) v H2 s2 R2 B2
    refine ⟨_, rfl, rfl, _, rfl, ?_⟩
    cases ec : cheap M c c.head with
    | none =>
      rw [ec] at B2
      have B2 : v = .non := B2
      subst B2
      refine ite_t rfl ?_
      exact t1 rfl
    | some b =>
      rw [ec] at B2
      obtain ⟨t, e, _⟩ := B2
      subst e
      refine ite_f rfl ?_
      obtain ⟨q1, q2⟩ := t2 t b.1 b.2 rfl ec
      exact ⟨_, rfl, t, _, _, _, rfl, rfl, SqT.of q1, rfl, q2⟩
/-! ### hint -/
def spHint (K : PySem.W.Frag) (C : Addr) : Sp := fun vs H Q _ => ∃ (A : RA) (M : Mach) (c : Cfg), vs = [.ref A.r] ∧ Fine M c ∧ RdAt C M A H c ∧
  ∀ (H' : Hp), Same (fr A H) (fr A H') → RdAt C M A H' c → Q (.str (S (hint M c))) H'
theorem scHint : FnScope ["self", "best"] ["self"] (defScope sHint) := ⟨rfl, rfl, rfl, by decide +kernel, rfl, by decide +kernel, by decide +kernel⟩
theorem ok_hint {C f fC fD fL : Addr} {fd fdC fdD fdL : FuncData} (F : Fun K "hint" "Reader.hint" sHint f fd) (T : Txt K mg C) (GC : FnOk P w K mg base CX0 3 fC fdC ["self", "head"] (spCheapest K C)) (bC : Binds K fdC ["self", "head"] []) (mC : Meth K C "cheapest" fC)
    (GD : FnOk P w K mg base CX0 1 fD fdD ["self"] (spCloses K C)) (bD : Binds K fdD ["self"] []) (mD : Meth K C "closes" fD) (GL : FnOk P w K mg base CX0 4 fL fdL ["self"] (spLeft K C)) (bL : Binds K fdL ["self"] []) (mL : Meth K C "left" fL) :
    FnOk P w K mg base CX0 5 f fd ["self"] (spHint K C) := by
  refine F.ok scHint (fun vs H Q E h => ?_) (fun cdv A0 outer s H vs Q E hr h => ?_)
  · obtain ⟨A, M, c, rfl, _⟩ := h
    rfl
  obtain ⟨A, M, c, rfl, fn, R, k⟩ := h
  refine ⟨_, pss_cons (ps_if (PW.pt (pw_or (pt_val (pe_fld (pv 0) rfl)) (pw_or1 (pt_cmpR op_isN (pe_meth0 (pv 0) T.cl mL GL hr bL .nil pass0) pe_non (nomark _))))) (pss_one (ps_ret pe_str)) pss_nil)
    (pss_cons (ps_set (i := 1) scHint.nd rfl (.inl rfl) (pe_meth (pv 0) T.cl mC GC (hr.mono (by decide)) bC .nil pass0 (pa_cons (pe_fld (pv 0) rfl) pa_nil)))
    (Evl.pss_cut (ps_if (PW.pt (pw_and (pt_cmpR op_eq (pe_fld (pv 0) rfl) pe_str (nomark _)) (pw_and1 (pt_cmpR op_gt (pe_callB call_len_seq rfl T.len boot_len (pa_cons (pe_fld (pv 0) rfl) pa_nil)) pe_int (nomark _)))))
      (pss_one (ps_if (PW.pt (pw_and (pt_val (pe_meth0 (pv 0) T.cl mD GD (hr.mono (by decide)) bD .nil pass0)) (pw_and1 (PW.pt (pw_or (pt_cmpR op_isN (pv 1) pe_non (nomark _)) (pw_or1 (pt_cmpR op_gt (pe_ix ix_tup (pv 1) pe_int (fun _ _ => rfl)) (pe_meth0 (pv 0) T.cl mL GL hr bL .nil pass0) (nomark _))))))))
        (pss_one (ps_ret pe_str)) pss_nil)) pss_nil)
    (pss_cons (ps_if (pt_cmpR op_ne (pe_fld (pv 0) rfl) (pe_ix ix_tup (pv 1) pe_int (fun _ _ => rfl)) (nomark _))
      (pss_one (ps_ret (pe_ix ix_str (pe_ix ix_tup (pv 1) pe_int (fun _ _ => rfl)) (pe_callB call_len_str rfl T.len boot_len (pa_cons (pe_fld (pv 0) rfl) pa_nil)) (fun _ _ => rfl)))) pss_nil)
    (pss_cons (ps_if (PW.pt (pw_and (pt_cmpR op_eq (pe_ix ix_str (pe_fld (pv 0) rfl) (pe_un un_neg pe_int) (fun _ _ => rfl)) pe_str (nomark _)) (pw_and1 (pt_cmpR op_eq (pe_fld (pv 0) rfl) pe_int (nomark _))))) (pss_one (ps_ret pe_str)) pss_nil)
    (pss_one (ps_ret pe_str)))))), ?_⟩
  obtain ⟨iv, hob, _⟩ := R.ob
  have o := fn.ok
  have h9 := fn.head9
  have hhz : (S c.head).length ≤ sizeLine := by rw [S_len]; exact sz _ (by omega)
  refine ⟨_, rfl, A.r, C, A.dx, _, _, rfl, hob, T.cl, T.nWhole, lk_whole _ _ _ _ _, c.whole, rfl, ?_⟩
  cases hw : c.whole with
  | true =>
    refine ite_t rfl ?_
    rw [hint_whole hw] at k
    rw [← str_nil] at k
    exact k H (Same.refl _) R
  | false =>
  refine ite_f rfl ?_
  refine ⟨_, rfl, A.r, A.dx, _, rfl, hob, lk_m6 _ _ _ _ _, A, M, c, rfl, fn, R, fun H1 s1 R1 => ⟨rfl, _, rfl, ?_⟩⟩
  cases hl : left M c with
  | none =>
    refine ite_t rfl ?_
    rw [hint_none hl, ← str_nil] at k
    exact k H1 s1 R1
  | some m =>
  refine ite_f rfl ?_
  obtain ⟨iv1, hob1, _⟩ := R1.ob
  -- best = self.cheapest(self.head)
  refine ⟨_, rfl, A.r, A.dx, _, rfl, hob1, lk_m2 _ _ _ _ _, _, rfl, A.r, C, A.dx, _, _, rfl, hob1, T.cl, T.nHead, lk_head _ _ _ _ _, A, M, c, c.head, rfl, o, fn.n, fn.rng, by omega, R1, fun v H2 s12 R2 B2 => ?_⟩
  have s2 := s1.trans s12
  obtain ⟨iv2, hob2, _⟩ := R2.ob
  have ehint : hint M c = if (c.head == [] && !c.sts.isEmpty && closes M c && dearer M c) = true then [41] else (match cheap M c c.head with | none => [] | some b => hintB M c b) := by
    unfold hint
    rw [if_neg (by rw [hw, hl]; exact Bool.false_ne_true)]
    all_goals rfl
  -- behind the first if: no closing, and a label there is
  refine ⟨fun σ' H' => σ' = [some (.ref A.r), some v] ∧ Same (fr A H) (fr A H') ∧ RdAt C M A H' c ∧ BestAt (fr A H') v (cheap M c c.head) ∧ (c.head == [] && !c.sts.isEmpty && closes M c && dearer M c) = false, ?_, ?_⟩
  · refine ⟨_, rfl, A.r, C, A.dx, _, _, rfl, hob2, T.cl, T.nHead, lk_head _ _ _ _ _, rfl, _, rfl, ?_⟩
    cases hh : (c.head == []) with
    | false =>
      refine ite_f ((isNil _).trans hh) ?_
      refine ite_f rfl ?_
      exact ⟨rfl, s2, R2, B2, rfl⟩
    | true =>
      refine ite_t ((isNil _).trans hh) ?_
      refine ⟨_, rfl, A.r, C, A.dx, _, _, rfl, hob2, T.cl, T.nStates, lk_states _ _ _ _ _, A.aSt, _, rfl, .inl (SqL.of R2.st), _, 0, rfl, rfl, _, rfl, ?_⟩
      cases hs : c.sts with
      | nil =>
        refine ite_f (decide_eq_false (by simp)) ?_
        exact ⟨rfl, s2, R2, B2, rfl⟩
      | cons p r =>
        refine ite_t (decide_eq_true (by simp)) ?_
        refine ⟨_, rfl, A.r, A.dx, _, rfl, hob2, lk_m3 _ _ _ _ _, A, M, c, rfl, o, fn.rng, R2, _, rfl, ?_⟩
        cases hcl : closes M c with
        | false =>
          refine ite_f rfl ?_
          refine ite_f rfl ?_
          exact ⟨rfl, s2, R2, B2, rfl⟩
        | true =>
          refine ite_t rfl ?_
          refine ⟨_, rfl, rfl, _, rfl, ?_⟩
          have k41 : dearer M c = true → ∀ H', Same (fr A H) (fr A H') → RdAt C M A H' c → Q (.str ")") H' := fun hd H' s' R' => by
            rw [ehint, hh, hs, hcl, hd] at k
            have k := k H' s' R'
            rw [str41]
            exact k
          cases ec : cheap M c c.head with
          | none =>
            rw [ec] at B2
            have B2 : v = .non := B2
            subst B2
            refine ite_t rfl ?_
            exact k41 (dearer_none ec) H2 s2 R2
          | some b =>
            rw [ec] at B2
            obtain ⟨t, e, ht⟩ := id B2
            subst e
            refine ite_f rfl ?_
            refine ⟨_, rfl, t, _, _, _, rfl, rfl, SqT.of (mns_same _ _ _ _ ht), rfl, _, rfl, A.r, A.dx, _, rfl, hob2, lk_m6 _ _ _ _ _, A, M, c, rfl, fn, R2, fun H3 s23 R3 => ?_⟩
            have ed := dearer_some ec
            rw [hl] at ed
            have eo : oV (left M c) = V.int (m : Int) := by rw [hl]; rfl
            refine ⟨(b.1 : Int), (m : Int), rfl, eo, _, rfl, ?_⟩
            by_cases lt : m < b.1
            · refine ite_t (decide_eq_true (by omega)) ?_
              exact k41 (ed.trans (decide_eq_true lt)) H3 (s2.trans s23) R3
            · refine ite_f (decide_eq_false (by omega)) ?_
              refine ⟨rfl, s2.trans s23, R3, ?_, ?_⟩
              · exact ⟨t, rfl, s23 _ _ ht⟩
              · rw [ed]
                exact decide_eq_false lt
  · rintro σ' H3 ⟨rfl, s3, R3, B3, hno⟩
    obtain ⟨iv3, hob3, _⟩ := R3.ob
    cases ec : cheap M c c.head with
    | none =>
      exfalso
      obtain ⟨e1, e2, e3⟩ := hint_best fn hw hl ec
      have : (c.head == [] && !c.sts.isEmpty && closes M c && dearer M c) = true := by
        rw [e1, e3, dearer_none ec]
        cases hs : c.sts with
        | nil => exact absurd hs e2
        | cons p r => rfl
      rw [this] at hno
      cases hno
    | some b =>
    rw [ehint, hno, if_neg Bool.false_ne_true, ec] at k
    obtain ⟨bm, bl⟩ := b
    rw [ec] at B3
    obtain ⟨t, e, ht⟩ := B3
    subst e
    have ht : H3 t = some (.tup [nV bm, .str (S bl)]) := mns_same _ _ _ _ ht
    obtain ⟨⟨st, hm, hcost⟩, _⟩ := cheap_some ec
    obtain ⟨kk, hp, _, _⟩ := cost1_some hcost
    have lo := (o.sl _ _ hm).1
    have hl9 := lab_le9 lo
    have hlz : (S bl).length ≤ sizeLine := by rw [S_len]; exact sz _ (by omega)
    refine ⟨_, rfl, A.r, C, A.dx, _, _, rfl, hob3, T.cl, T.nHead, lk_head _ _ _ _ _, _, rfl, t, _, _, _, rfl, rfl, SqT.of ht, rfl, rfl, _, rfl, ?_⟩
    have k : Q (.str (S (hintB M c (bm, bl)))) H3 := k H3 s3 R3
    unfold hintB at k
    cases hne : (c.head == bl) with
    | false =>
      have e1 : (c.head != bl) = true := by rw [bne, hne]; rfl
      refine ite_t (by rw [str_eq, hne]; rfl) ?_
      rw [if_pos e1] at k
      obtain ⟨x, hx, _, _⟩ := pre_next hp (by simpa using hne)
      have k : Q (.str (S (match bl[c.head.length]? with | some x => [x] | none => []))) H3 := k
      have hx : bl[c.head.length]? = some x := hx
      rw [hx] at k
      have hat : atI (S bl).cps.toList ((c.head.length : Nat) : Int) = some x := atI_nat hx
      refine ⟨_, rfl, t, _, _, _, rfl, rfl, SqT.of ht, rfl, _, rfl, A.r, C, A.dx, _, _, rfl, hob3, T.cl, T.nHead, lk_head _ _ _ _ _, _, rfl, hhz, _, _, x, rfl, rfl, hlz, (by rw [S_len]; exact hat), k⟩
    | true =>
      have e1 : (c.head != bl) = false := by rw [bne, hne]; rfl
      refine ite_f (by rw [str_eq, hne]; rfl) ?_
      rw [if_neg (by rw [e1]; exact Bool.false_ne_true)] at k
      have ehb : c.head = bl := by simpa using hne
      obtain ⟨ch, hch, hch2⟩ := lab_last (l := c.head) (by rw [ehb]; exact lo)
      refine ⟨_, rfl, A.r, C, A.dx, _, _, rfl, hob3, T.cl, T.nHead, lk_head _ _ _ _ _, 1, rfl, _, _, ch, rfl, rfl, hhz, hch, rfl, _, rfl, ?_⟩
      by_cases e58 : ch = 58
      · refine ite_t ((str58 ch).trans (decide_eq_true e58)) ?_
        rw [hch2.mpr e58] at k
        refine ⟨_, rfl, A.r, C, A.dx, _, _, rfl, hob3, T.cl, T.nSigns, lk_signs _ _ _ _ _, rfl, _, rfl, ?_⟩
        by_cases esg : c.sg = 0
        · refine ite_t ((int_eq _ _).trans (decide_eq_true (by omega))) ?_
          rw [esg] at k
          rw [str97]
          exact k
        · refine ite_f ((int_eq _ _).trans (decide_eq_false (by omega))) ?_
          have : (c.sg == 0) = false := by simpa using esg
          rw [this] at k
          rw [str40]
          exact k
      · refine ite_f ((str58 ch).trans (decide_eq_false e58)) ?_
        refine ite_f rfl ?_
        have ecf : colon c.head = false := by
          cases z : colon c.head with
          | false => rfl
          | true => exact absurd (hch2.mp z) e58
        rw [ecf] at k
        rw [str40]
        exact k
end
end Wd
namespace Wd
open PySem L2
open TL (tl tl_append ext_tl mk_tl partition_app partition_none len_tl)
/-! ### __init__ -/
theorem put0 (v1 : V) : putF "starts" v1 ([] : List (Str × V)) = ([("starts", v1)] : List (Str × V)) := by kernel_rfl
theorem put1 (v1 v2 : V) : putF "steps" v2 ([("starts", v1)] : List (Str × V)) = ([("starts", v1), ("steps", v2)] : List (Str × V)) := by kernel_rfl
theorem put2 (v1 v2 v3 : V) : putF "good" v3 ([("starts", v1), ("steps", v2)] : List (Str × V)) = ([("starts", v1), ("steps", v2), ("good", v3)] : List (Str × V)) := by kernel_rfl
theorem put3 (v1 v2 v3 v4 : V) : putF "prices" v4 ([("starts", v1), ("steps", v2), ("good", v3)] : List (Str × V)) = ([("starts", v1), ("steps", v2), ("good", v3), ("prices", v4)] : List (Str × V)) := by kernel_rfl
theorem put4 (v1 v2 v3 v4 v5 : V) : putF "states" v5 ([("starts", v1), ("steps", v2), ("good", v3), ("prices", v4)] : List (Str × V)) = ([("starts", v1), ("steps", v2), ("good", v3), ("prices", v4), ("states", v5)] : List (Str × V)) := by kernel_rfl
theorem put5 (v1 v2 v3 v4 v5 v6 : V) : putF "costs" v6 ([("starts", v1), ("steps", v2), ("good", v3), ("prices", v4), ("states", v5)] : List (Str × V)) = ([("starts", v1), ("steps", v2), ("good", v3), ("prices", v4), ("states", v5), ("costs", v6)] : List (Str × V)) := by kernel_rfl
theorem put6 (v1 v2 v3 v4 v5 v6 v7 : V) : putF "inner" v7 ([("starts", v1), ("steps", v2), ("good", v3), ("prices", v4), ("states", v5), ("costs", v6)] : List (Str × V)) = ([("starts", v1), ("steps", v2), ("good", v3), ("prices", v4), ("states", v5), ("costs", v6), ("inner", v7)] : List (Str × V)) := by kernel_rfl
theorem put7 (v1 v2 v3 v4 v5 v6 v7 v8 : V) : putF "head" v8 ([("starts", v1), ("steps", v2), ("good", v3), ("prices", v4), ("states", v5), ("costs", v6), ("inner", v7)] : List (Str × V)) = ([("starts", v1), ("steps", v2), ("good", v3), ("prices", v4), ("states", v5), ("costs", v6), ("inner", v7), ("head", v8)] : List (Str × V)) := by kernel_rfl
theorem put8 (v1 v2 v3 v4 v5 v6 v7 v8 v9 : V) : putF "signs" v9 ([("starts", v1), ("steps", v2), ("good", v3), ("prices", v4), ("states", v5), ("costs", v6), ("inner", v7), ("head", v8)] : List (Str × V)) = ([("starts", v1), ("steps", v2), ("good", v3), ("prices", v4), ("states", v5), ("costs", v6), ("inner", v7), ("head", v8), ("signs", v9)] : List (Str × V)) := by kernel_rfl
theorem put9 (v1 v2 v3 v4 v5 v6 v7 v8 v9 v10 : V) : putF "whole" v10 ([("starts", v1), ("steps", v2), ("good", v3), ("prices", v4), ("states", v5), ("costs", v6), ("inner", v7), ("head", v8), ("signs", v9)] : List (Str × V)) = ([("starts", v1), ("steps", v2), ("good", v3), ("prices", v4), ("states", v5), ("costs", v6), ("inner", v7), ("head", v8), ("signs", v9), ("whole", v10)] : List (Str × V)) := by kernel_rfl
theorem bootList : bootBuiltins "list" = some (.type "list") := by decide +kernel
theorem mns1 {H : Hp} {p C dx : Addr} {fs : List (Str × V)} (hp : H p = some (.ins C dx fs)) {b : Addr} {o : HO} (h : H b = some o) (ho : ∀ C dx fs, o ≠ .ins C dx fs) : mns H [p] b = some o := by
  rw [mns_out]
  · exact h
  · intro hm
    rw [List.mem_singleton.mp hm, hp] at h
    exact ho _ _ _ (Option.some.inj h).symm
theorem MachAt.mns {K : PySem.W.Frag} {H : Hp} {p C dx : Addr} {fs : List (Str × V)} (hp : H p = some (.ins C dx fs)) {a : Addr} {M : Mach} (h : MachAt K H a M) : MachAt K (mns H [p]) a M := by
  obtain ⟨aS, aT, aG, hT, ⟨as, h1, h2, h3⟩, ⟨rs, g1, g2, g3⟩, hG⟩ := h
  refine ⟨aS, aT, aG, ?_, ⟨as, mns1 hp h1 (by intro _ _ _ z; cases z), h2, fun i b q e1 e2 => mns1 hp (h3 i b q e1 e2) (by intro _ _ _ z; cases z)⟩, ⟨rs, mns1 hp g1 (by intro _ _ _ z; cases z), g2, fun i b q e1 e2 => mns1 hp (g3 i b q e1 e2) (by intro _ _ _ z; cases z)⟩, mns1 hp hG (by intro _ _ _ z; cases z)⟩
  rcases hT with (h | ⟨o, h⟩) | h
  · exact .inl (.inl (mns1 hp h (by intro _ _ _ z; cases z)))
  · exact .inl (.inr ⟨o, mns1 hp h (by intro _ _ _ z; cases z)⟩)
  · exact .inr h
section
variable {P : Program} {w : World} {K : PySem.W.Frag} {mg : Str → Option Value} {base : Heap}
def spInit (K : PySem.W.Frag) (C : Addr) : Sp := fun vs H Q _ => ∃ (p dx a : Addr) (M : Mach), vs = [.ref p, .ref a] ∧ MachAt K H a M ∧ M.Ok ∧ M.n ≤ 1000 ∧ M.starts.length ≤ 1000 ∧ M.good.length ≤ 1000 ∧ H p = some (.ins C dx []) ∧
  ∀ (A : RA) (H' : Hp), A.r = p → (∀ b o, H b = some o → b ≠ p → fr A H' b = some o) → RdAt C M A H' init → Q .non H'
abbrev nInit : List Str := ["self", "machine", "pair", "row"]
theorem scInit : FnScope nInit ["self", "machine"] (defScope sInit) := ⟨rfl, rfl, rfl, by decide +kernel, rfl, by decide +kernel, by decide +kernel⟩
theorem ok_init {C f fP : Addr} {fd fdP : FuncData} (F : Fun K "__init__" "Reader.__init__" sInit f fd) (T : Txt K mg C) (tL : mg "list" = none) (GP : FnOk P w K mg base CX0 4 fP fdP ["machine"] (spPrices K)) (bP : Binds K fdP ["machine"] []) (kP : PySem.W.keepIn K (.ref fP) = true) (mP : mg "prices_of" = some (.ref fP)) :
    FnOk P w K mg base CX0 5 f fd ["self", "machine"] (spInit K C) := by
  refine F.ok scInit (fun vs H Q E h => ?_) (fun cdv A0 outer s H vs Q E hr h => ?_)
  · obtain ⟨p, dx, a, M, rfl, _⟩ := h
    rfl
  obtain ⟨p, dx, a, M, rfl, hM, o, hn, hsl, hgl, hp, k⟩ := h
  have hM' := hM.mns hp
  obtain ⟨aS, aT, aG, hT, hS, hR, hG⟩ := id hM
  refine ⟨_, pss_cons (ps_fld (pv 0) (pe_lc (own := [("pair", 2)]) (g := gName 2) (tt := tYes) (te := tTup (tCons (tOp (rIxT K) (tVar 2) (tC (.int 0))) (tCons (tOp (rIxT K) (tVar 2) (tC (.int 1))) tNil))) rfl scInit.nd (pi_list (pe_ix ix_tup (pv 1) pe_int (fun _ _ => rfl))) (blkOk_by (N := nInit) (sc := defScope sInit) (by decide +kernel))
        (fun _ _ _ _ _ => pg_name (i := 2) scInit.nd rfl (Or.inl rfl)) (fun _ _ _ _ _ => pts_nil) (fun _ _ _ _ _ => pe_tup (pa_cons (pe_ix ix_tup (pv 2) pe_int (fun _ _ => rfl)) (pa_cons (pe_ix ix_tup (pv 2) pe_int (fun _ _ => rfl)) pa_nil)))) rfl)
    (pss_cons (ps_fld (pv 0) (pe_lc (own := [("row", 3)]) (g := gName 3) (tt := tYes) (te := tCB (Evl.rListS K) (tCons (tVar 3) tNil)) rfl scInit.nd (pi_list (pe_ix ix_tup (pv 1) pe_int (fun _ _ => rfl))) (blkOk_by (N := nInit) (sc := defScope sInit) (by decide +kernel))
        (fun _ _ _ _ _ => pg_name (i := 3) scInit.nd rfl (Or.inl rfl)) (fun _ _ _ _ _ => pts_nil) (fun _ _ _ _ _ => pe_callTy call_list_of (by rfl) tL bootList (pa_cons (pv 3) pa_nil))) rfl)
    (pss_cons (ps_fld (pv 0) (pe_callTy call_list_of (by rfl) tL bootList (pa_cons (pe_ix ix_tup (pv 1) pe_int (fun _ _ => rfl)) pa_nil)) rfl)
    (pss_cons (ps_fld (pv 0) (pe_call GP hr rfl mP kP bP .nil pass0 (pa_cons (pv 1) pa_nil)) rfl)
    (pss_cons (ps_fld (pv 0) (pe_lst pa_nil) rfl) (pss_cons (ps_fld (pv 0) (pe_lst pa_nil) rfl) (pss_cons (ps_fld (pv 0) pe_non rfl) (pss_cons (ps_fld (pv 0) pe_str rfl) (pss_cons (ps_fld (pv 0) pe_int rfl) (pss_one (ps_fld (pv 0) pe_bl rfl)))))))))), ?_⟩
  obtain ⟨as, hS1, hS2, hS3⟩ := id hS
  obtain ⟨rs, hR1, hR2, hR3⟩ := id hR
  refine ⟨_, rfl, a, _, _, _, rfl, rfl, hT, rfl, aS, rfl, ⟨_, SqL.of hS1⟩, fun D hD => ?_⟩
  refine lc_list (K := K) (a := aS) (xs := as.map V.ref) (fun j H' => ∃ bs : List Addr, Same H H' ∧ H' D = some (.lst (bs.map V.ref)) ∧ bs.length = j ∧ ∀ (i : Nat) (b : Addr) (q : List Nat × Nat), bs[i]? = some b → M.starts[i]? = some q → H' b = some (.tup [.str (S q.1), nV q.2]))
    ⟨[], same_new hD _, upd_same, rfl, fun i b q h => by simp at h⟩ (fun j H' _ ⟨bs, s', _⟩ => SqL.of (s' _ _ hS1)) (fun j y H' hj ⟨bs, s', hD', hbl, hb⟩ => ?_) (fun H1 ⟨bs, s1, hD1, hbl, hb⟩ => ?_)
  · obtain ⟨b, l, st, rfl, ep, hbb⟩ : ∃ (b : Addr) (l : List Nat) (st : Nat), y = V.ref b ∧ M.starts[j]? = some (l, st) ∧ H b = some (.tup [.str (S l), nV st]) := by
      have hia : j < as.length := by
        have q := (List.getElem?_eq_some_iff.mp hj).1
        rw [List.length_map] at q
        exact q
      have his : j < M.starts.length := by rw [← hS2]; exact hia
      rw [getMap (List.getElem?_eq_getElem hia)] at hj
      exact ⟨as[j], M.starts[j].1, M.starts[j].2, (Option.some.inj hj).symm, List.getElem?_eq_getElem his, hS3 j _ _ (List.getElem?_eq_getElem hia) (List.getElem?_eq_getElem his)⟩
    have hbb' := s' _ _ hbb
    have hjs : j < M.starts.length := (List.getElem?_eq_some_iff.mp ep).1
    refine ⟨wipe_own _ 2 _, _, rfl, b, _, 0, _, rfl, rfl, SqT.of hbb', rfl, _, rfl, b, _, 1, _, rfl, rfl, SqT.of hbb', rfl, (by show 2 ≤ sizeLine; decide), fun q hq => ?_⟩
    have nDq : D ≠ q := ne_of_none hD' hq
    refine ⟨_, by rw [upd_ne nDq]; exact hD', by rw [List.length_map]; exact szl _ (by omega), bs ++ [q], ?_, ?_, by simp [hbl], fun i b' z h1 h2 => ?_⟩
    · exact same_upd (s'.trans (same_new hq _)) hD _
    · rw [upd_same, List.map_append]
      rfl
    · by_cases hi : i < bs.length
      · rw [List.getElem?_append_left hi] at h1
        have hb' := hb i b' z h1 h2
        have n1 : b' ≠ D := ne_of hb' hD' (by intro z; cases z)
        rw [upd_ne n1, upd_ne (ne_of_none hb' hq)]
        exact hb'
      · rw [List.getElem?_append_right (by omega)] at h1
        have hi0 : i = j := by
          have := (List.getElem?_eq_some_iff.mp h1).1
          simp at this
          omega
        subst hi0
        rw [hbl, Nat.sub_self] at h1
        have e1 : q = b' := Option.some.inj h1
        subst e1
        rw [ep] at h2
        cases h2
        rw [upd_ne nDq.symm, upd_same]
  · rw [List.length_map, hS2] at hbl
    have pD : p ≠ D := ne_of_none hp hD
    refine ⟨_, rfl, p, C, dx, [], rfl, s1 _ _ hp, T.cl, T.nStarts, (by show 0 < 1000; decide), ?_⟩
    rw [put0]
    -- the starts stand
    have st1 : StartsAt (mns H1 [p]) D M.starts := ⟨bs, by rw [mns_out (by simpa using pD.symm)]; exact hD1, hbl, fun i b q h1 h2 => mns1 (s1 _ _ hp) (hb i b q h1 h2) (by intro _ _ _ z; cases z)⟩
    have m1 : Same (mns H [p]) (mns H1 [p]) := mns_mono _ s1
    -- self.steps
    obtain ⟨aS', aT', aG', hT', _, ⟨rs', hR1', hR2', hR3'⟩, hG'⟩ := id hM'
    generalize hH1' : upd H1 p (.ins C dx [("starts", .ref D)]) = H1'
    have e1 : mns H1' [p] = mns H1 [p] := by rw [← hH1']; exact mns_upd (by simp)
    have p1 : H1' p = some (.ins C dx [("starts", .ref D)]) := by rw [← hH1']; exact upd_same
    rw [← e1] at st1 m1
    have t1 : Same (mns H [p]) H1' := m1.trans (mns_same _ _)
    refine ⟨_, rfl, a, _, _, _, rfl, rfl, t1.t hT', rfl, aT', rfl, ⟨_, SqL.of (t1 _ _ hR1')⟩, fun D2 hD2 => ?_⟩
    refine lc_list (K := K) (a := aT') (xs := rs'.map V.ref) (fun j H' => ∃ bs : List Addr, Same H1' H' ∧ H' D2 = some (.lst (bs.map V.ref)) ∧ bs.length = j ∧ ∀ (i : Nat) (b : Addr) (r : List Nat), bs[i]? = some b → M.rows[i]? = some r → b ≠ D2 ∧ H' b = some (.lst (r.map nV)))
      ⟨[], same_new hD2 _, upd_same, rfl, fun i b q h => by simp at h⟩ (fun j H' _ ⟨bs, s', _⟩ => SqL.of (s' _ _ (t1 _ _ hR1'))) (fun j y H' hj ⟨bs, s', hD', hbl, hb⟩ => ?_) (fun H2 ⟨bs2, s2, hD2', hbl2, hb2⟩ => ?_)
    · obtain ⟨b, r, rfl, ep, hbb⟩ : ∃ (b : Addr) (r : List Nat), y = V.ref b ∧ M.rows[j]? = some r ∧ H1' b = some (.lst (r.map nV)) := by
        have hia : j < rs'.length := by
          have q := (List.getElem?_eq_some_iff.mp hj).1
          rw [List.length_map] at q
          exact q
        have his : j < M.rows.length := by rw [← hR2']; exact hia
        rw [getMap (List.getElem?_eq_getElem hia)] at hj
        exact ⟨rs'[j], M.rows[j], (Option.some.inj hj).symm, List.getElem?_eq_getElem his, t1 _ _ (hR3' j _ _ (List.getElem?_eq_getElem hia) (List.getElem?_eq_getElem his))⟩
      have hbb' := s' _ _ hbb
      have hjs : j < M.rows.length := (List.getElem?_eq_some_iff.mp ep).1
      rw [o.rl] at hjs
      refine ⟨wipe_own _ 3 _, _, rfl, b, _, rfl, .inl (SqL.of hbb'), fun q hq => ?_⟩
      have nDq : D2 ≠ q := ne_of_none hD' hq
      refine ⟨_, by rw [upd_ne nDq]; exact hD', by rw [List.length_map]; exact szl _ (by omega), bs ++ [q], ?_, ?_, by simp [hbl], fun i b' z h1 h2 => ?_⟩
      · exact same_upd (s'.trans (same_new hq _)) hD2 _
      · rw [upd_same, List.map_append]
        rfl
      · by_cases hi : i < bs.length
        · rw [List.getElem?_append_left hi] at h1
          obtain ⟨n1, hb'⟩ := hb i b' z h1 h2
          refine ⟨n1, ?_⟩
          rw [upd_ne n1, upd_ne (ne_of_none hb' hq)]
          exact hb'
        · rw [List.getElem?_append_right (by omega)] at h1
          have hi0 : i = j := by
            have := (List.getElem?_eq_some_iff.mp h1).1
            simp at this
            omega
          subst hi0
          rw [hbl, Nat.sub_self] at h1
          have e1 : q = b' := Option.some.inj h1
          subst e1
          rw [ep] at h2
          cases h2
          refine ⟨nDq.symm, ?_⟩
          rw [upd_ne nDq.symm, upd_same]
    · rw [List.length_map, hR2'] at hbl2
      have p2 := s2 _ _ p1
      have pD2 : p ≠ D2 := ne_of_none p1 hD2
      refine ⟨_, rfl, p, C, dx, _, rfl, p2, T.cl, T.nSteps, (by show 1 < 1000; decide), ?_⟩
      rw [put1]
      have ro2 : RowsAt (mns H2 [p]) D2 M.rows := ⟨bs2, mns1 p2 hD2' (by intro _ _ _ z; cases z), hbl2, fun i b r h1 h2 => mns1 p2 (hb2 i b r h1 h2).2 (by intro _ _ _ z; cases z)⟩
      have m2 : Same (mns H1' [p]) (mns H2 [p]) := mns_mono _ s2
      have st2 := st1.mono m2
      have mm2 := m1.trans m2
      generalize hH2' : upd H2 p (.ins C dx [("starts", .ref D), ("steps", .ref D2)]) = H2'
      have e2 : mns H2' [p] = mns H2 [p] := by rw [← hH2']; exact mns_upd (by simp)
      have p2' : H2' p = some (.ins C dx [("starts", .ref D), ("steps", .ref D2)]) := by rw [← hH2']; exact upd_same
      rw [← e2] at st2 mm2 ro2
      have t2 : Same (mns H [p]) H2' := mm2.trans (mns_same _ _)
      -- self.good = list(machine[2])
      refine ⟨_, rfl, a, _, _, _, rfl, rfl, t2.t hT', rfl, aG', _, rfl, .inl (SqL.of (t2 _ _ hG')), fun g3 hg3 => ?_⟩
      have s3 := same_new hg3 (.lst (M.good.map nV))
      have p3 := s3 _ _ p2'
      refine ⟨_, rfl, p, C, dx, _, rfl, p3, T.cl, T.nGood, (by show 2 < 1000; decide), ?_⟩
      rw [put2]
      have in3 : IntsAt (mns (upd H2' g3 (.lst (M.good.map nV))) [p]) g3 M.good := mns1 p3 upd_same (by intro _ _ _ z; cases z)
      have m3 : Same (mns H2' [p]) (mns (upd H2' g3 (.lst (M.good.map nV))) [p]) := mns_mono _ s3
      have st3 := st2.mono m3
      have ro3 := ro2.mono m3
      have mm3 := mm2.trans m3
      generalize hH3' : upd (upd H2' g3 (.lst (M.good.map nV))) p (.ins C dx [("starts", .ref D), ("steps", .ref D2), ("good", .ref g3)]) = H3'
      have e3 : mns H3' [p] = mns (upd H2' g3 (.lst (M.good.map nV))) [p] := by rw [← hH3']; exact mns_upd (by simp)
      have p3' : H3' p = some (.ins C dx [("starts", .ref D), ("steps", .ref D2), ("good", .ref g3)]) := by rw [← hH3']; exact upd_same
      rw [← e3] at st3 mm3 ro3 in3
      have t3 : Same (mns H [p]) H3' := mm3.trans (mns_same _ _)
      -- self.prices = prices_of(machine)
      refine ⟨_, rfl, a, M, rfl, hM'.mono t3, o, hn, fun pp H4 s4 hpp hA4 => ?_⟩
      have p4 := s4 _ _ p3'
      refine ⟨_, rfl, p, C, dx, _, rfl, p4, T.cl, T.nPrices, (by show 3 < 1000; decide), ?_⟩
      rw [put3]
      have ar4 : ArAt (mns H4 [p]) pp (prices M) := mns1 p4 hA4 (by intro _ _ _ z; cases z)
      have m4 : Same (mns H3' [p]) (mns H4 [p]) := mns_mono _ s4
      have st4 := st3.mono m4
      have ro4 := ro3.mono m4
      have in4 := m4 _ _ in3
      have mm4 := mm3.trans m4
      generalize hH4' : upd H4 p (.ins C dx [("starts", .ref D), ("steps", .ref D2), ("good", .ref g3), ("prices", .ref pp)]) = H4'
      have e4 : mns H4' [p] = mns H4 [p] := by rw [← hH4']; exact mns_upd (by simp)
      have p4' : H4' p = some (.ins C dx [("starts", .ref D), ("steps", .ref D2), ("good", .ref g3), ("prices", .ref pp)]) := by rw [← hH4']; exact upd_same
      rw [← e4] at st4 mm4 ro4 in4 ar4
      -- self.states = []; self.costs = []
      refine ⟨Nat.zero_le _, fun l5 h5 => ?_⟩
      have p5 : p ≠ l5 := ne_of_none p4' h5
      refine ⟨_, rfl, p, C, dx, _, rfl, (by rw [upd_ne p5]; exact p4'), T.cl, T.nStates, (by show 4 < 1000; decide), ?_⟩
      rw [put4]
      refine ⟨Nat.zero_le _, fun l6 h6 => ?_⟩
      have p6 : p ≠ l6 := ne_of_none upd_same h6
      have n56 : l5 ≠ l6 := ne_of_none (show upd (upd H4' l5 (.lst [])) p _ l5 = some (.lst []) by rw [upd_ne p5.symm, upd_same]) h6
      have h46 : H4' l6 = none := by
        rw [upd_ne p6.symm, upd_ne n56.symm] at h6
        exact h6
      refine ⟨_, rfl, p, C, dx, _, rfl, (by rw [upd_ne p6]; exact upd_same), T.cl, T.nCosts, (by show 5 < 1000; decide), ?_⟩
      rw [put5]
      refine ⟨_, rfl, p, C, dx, _, rfl, upd_same, T.cl, T.nInner, (by show 6 < 1000; decide), ?_⟩
      rw [put6]
      refine ⟨_, rfl, p, C, dx, _, rfl, upd_same, T.cl, T.nHead, (by show 7 < 1000; decide), ?_⟩
      rw [put7]
      refine ⟨_, rfl, p, C, dx, _, rfl, upd_same, T.cl, T.nSigns, (by show 8 < 1000; decide), ?_⟩
      rw [put8]
      refine ⟨_, rfl, p, C, dx, _, rfl, upd_same, T.cl, T.nWhole, (by show 9 < 1000; decide), ?_⟩
      rw [put9, upd_upd, upd_upd, upd_upd, upd_upd]
      have sF : ∀ o : HO, Same (mns H4' [p]) (fr ⟨p, dx, D, D2, g3, pp, l5, l6⟩ (upd (upd (upd (upd H4' l5 (.lst [])) p (.ins C dx [("starts", .ref D), ("steps", .ref D2), ("good", .ref g3), ("prices", .ref pp), ("states", .ref l5)])) l6 (.lst [])) p o)) := fun o b u e => by
        have hbp : b ≠ p := fun z => by
          rw [z, mns_in (by simp)] at e
          cases e
        have e' := mns_same _ _ _ _ e
        have hb5 := ne_of_none e' h5
        have hb6 := ne_of_none e' h46
        refine fr_out (fun z => ?_) ?_
        · rcases mem_mut.mp z with z | z | z
          · exact hbp z
          · exact hb5 z
          · exact hb6 z
        · rw [upd_ne hbp, upd_ne hb6, upd_ne hbp, upd_ne hb5]
          exact e'
      refine k ⟨p, dx, D, D2, g3, pp, l5, l6⟩ _ rfl (fun b o hb hbp => sF _ _ _ (mm4 _ _ (by rw [mns_out (by simpa using hbp)]; exact hb))) ?_
      refine ⟨n56, ⟨st4.mono (sF _), ro4.mono (sF _), sF _ _ _ in4, sF _ _ _ ar4⟩, ⟨.non, ?_, .inl rfl⟩, ?_, [], ?_, rfl⟩
      · rw [upd_same, str_nil]
        rfl
      · show upd _ p _ l5 = _
        rw [upd_ne p5.symm, upd_ne n56, upd_ne p5.symm, upd_same]
        rfl
      · show upd _ p _ l6 = _
        rw [upd_ne p6.symm, upd_same]
        rfl
end
end Wd
namespace Wd
open PySem L2
open TL (tl tl_append ext_tl mk_tl partition_app partition_none len_tl)
/-! ### a text times a number -/
theorem fold_rep (z : Array Nat) : ∀ (n : Nat) (acc : Array Nat), (((List.replicate n z).foldl (· ++ ·) acc)).toList = acc.toList ++ (List.replicate n z.toList).flatten
  | 0, acc => by simp
  | n + 1, acc => by
    rw [List.replicate_succ, List.foldl_cons, fold_rep z n, List.replicate_succ, List.flatten_cons, Array.toList_append, List.append_assoc]
theorem op_mul_str {X : Cx} : OpR X (binaryOp .Mult) (fun x y H Q => ∃ (z : List Nat) (n : Nat), x = .str (S z) ∧ y = .int (n : Int) ∧ n ≤ 100 ∧ z.length ≤ 100 ∧ Q (.str (S (List.replicate n z).flatten)) H) := by
  intro pins s σ H x y v u Q I rx ry h
  obtain ⟨z, n, rfl, rfl, hn, hz, q⟩ := h
  obtain ⟨t, rfl⟩ := rx
  obtain ⟨t', rfl⟩ := ry
  have hlen : (S z).length = z.length := S_len z
  have hmul : z.length * n ≤ 10000 := Nat.mul_le_mul hz hn
  refine PySem.P.mul_str (by simp; omega) (fun h1 h2 => ?_) (fun h1 h2 => ?_) ?_
  · rw [hlen]
    have : (1000000000000 : Int) ≤ (2 ^ 63 - 1) / (n : Int) := by
      rw [Int.le_ediv_iff_mul_le (by omega)]
      omega
    omega
  · rw [hlen, Int.toNat_natCast]
    unfold Builtin.Str.tooLong
    have := sz (z.length * n) (by omega)
    exact decide_eq_false (by omega)
  · have eS : ∀ zz : Str, tl zz = (List.replicate n z).flatten → zz = S (List.replicate n z).flatten := fun zz e => ext_tl e
    by_cases h1 : (n : Int) < 1
    · rw [if_pos h1]
      have hn0 : n = 0 := by omega
      subst hn0
      exact ⟨by decide, .str (S []), H, I.tok _, ⟨s.toks, rfl⟩, q⟩
    · rw [if_neg h1]
      by_cases h2 : (((n : Int) == 1) || (S z).length == 0) = true
      · rw [if_pos h2]
        have e : (List.replicate n z).flatten = z := by
          simp only [Bool.or_eq_true, beq_iff_eq] at h2
          rcases h2 with h2 | h2
          · have : n = 1 := by omega
            subst this
            simp
          · rw [hlen] at h2
            have : z = [] := List.length_eq_zero_iff.mp h2
            subst this
            simp
        rw [e] at q
        exact ⟨.str (S z), H, I, ⟨_, rfl⟩, q⟩
      · rw [if_neg h2]
        have e := eS ⟨(List.replicate (n : Int).toNat (S z).cps).foldl (· ++ ·) #[]⟩ (by
          show ((List.replicate (n : Int).toNat (S z).cps).foldl (· ++ ·) #[]).toList = _
          rw [Int.toNat_natCast, fold_rep]
          simp [S])
        refine ⟨?_, .str (S (List.replicate n z).flatten), H, I.tok _, ⟨s.toks, by rw [e]⟩, q⟩
        rw [e, S_len, List.length_flatten]
        simp
        rw [Nat.mul_comm]
        exact sz _ (by omega)
section
variable {P : Program} {w : World} {K : PySem.W.Frag} {mg : Str → Option Value} {base : Heap}
/-! ### _law_draw -/
def spDraw (K : PySem.W.Frag) : Sp := fun vs H Q _ => ∃ (a : Addr) (ns : List Int) (k m : Int), vs = [.ref a, .int k, .int m] ∧ SqL K H a (ns.map V.int) ∧ ns.length ≤ 63 ∧ 0 ≤ k ∧ k ≤ 10000 ∧ 1 ≤ m ∧ ∀ r : Nat, (r : Int) < m → Q (nV r) H
abbrev nDraw : List Str := ["_law_script", "_law_k", "_law_many", "_law_number"]
theorem scDraw : FnScope nDraw ["_law_script", "_law_k", "_law_many"] (defScope sDraw) := ⟨rfl, rfl, rfl, by decide +kernel, rfl, by decide +kernel, by decide +kernel⟩
theorem mod_nat {x m : Int} (h : 1 ≤ m) : ∃ r : Nat, x % m = (r : Int) ∧ (r : Int) < m := by
  have h1 := Int.emod_nonneg x (show m ≠ 0 by omega)
  have h2 := Int.emod_lt_of_pos x (show 0 < m by omega)
  exact ⟨(x % m).toNat, by omega, by omega⟩
theorem ok_draw {f : Addr} {fd : FuncData} (F : Fun K "_law_draw" "_law_draw" sDraw f fd) (ml : mg "len" = none) : FnOk P w K mg base CX0 1 f fd ["_law_script", "_law_k", "_law_many"] (spDraw K) := by
  refine F.ok scDraw (fun vs H Q E h => ?_) (fun cdv A0 outer s H vs Q E hr h => ?_)
  · obtain ⟨a, ns, k, m, rfl, _⟩ := h
    rfl
  obtain ⟨a, ns, kk, m, rfl, hS, hn, k0, k1, m1, q⟩ := h
  refine ⟨_, pss_cons (ps_if (pt_cmpR op_lt (pv 1) (pe_callB call_len_seq rfl ml boot_len (pa_cons (pv 0) pa_nil)) (nomark _)) (pss_one (ps_ret (pe_op op_mod (pe_ix ix_list (pv 0) (pv 1) (fun _ _ => rfl)) (pv 2)))) pss_nil)
    (pss_cons (ps_set (i := 3) scDraw.nd rfl (.inl rfl) (pe_op op_add (pe_op op_mul (pv 1) (pv 1)) pe_int))
    (pss_cons (ps_if (pt_cmpR op_gt (pe_callB call_len_seq rfl ml boot_len (pa_cons (pv 0) pa_nil)) pe_int (nomark _))
      (pss_one (ps_set (i := 3) scDraw.nd rfl (.inl rfl) (pe_op op_add (pv 3) (pe_op op_mod (pe_ix ix_list (pv 0) (pe_op op_mod (pv 1) (pe_callB call_len_seq rfl ml boot_len (pa_cons (pv 0) pa_nil))) (fun _ _ => rfl)) pe_int)))) pss_nil)
    (pss_one (ps_ret (pe_op op_mod (pe_op op_mod (pe_op op_mul (pv 3) pe_int) pe_int) (pv 2)))))), ?_⟩
  have hl : ((ns.map V.int).length : Int) = (ns.length : Int) := by rw [List.length_map]
  refine ⟨_, rfl, _, rfl, a, _, rfl, .inl hS, kk, _, rfl, rfl, _, rfl, ?_⟩
  rw [hl]
  have at_ : ∀ j : Int, 0 ≤ j → j < (ns.length : Int) → ∃ x : Int, atI (ns.map V.int) j = some (.int x) := fun j h0 h1 => by
    have hj : j.toNat < ns.length := by omega
    refine ⟨ns[j.toNat], at_of (j := j.toNat) (by omega) ?_⟩
    rw [List.getElem?_map, List.getElem?_eq_getElem hj]
    rfl
  have qv : ∀ v : Int, Q (.int (v % m)) H := fun v => by
    obtain ⟨r, e, hlt⟩ := mod_nat (x := v) m1
    rw [e]
    exact q r hlt
  by_cases hk : kk < (ns.length : Int)
  · refine ite_t (decide_eq_true hk) ?_
    obtain ⟨x, hx⟩ := at_ kk k0 hk
    exact ⟨_, rfl, _, rfl, a, _, _, _, rfl, rfl, hS, hx, _, rfl, x, m, rfl, rfl, by omega, qv x⟩
  · refine ite_f (decide_eq_false hk) ?_
    -- _law_number = _law_k * _law_k + 3
    have hkk : 0 ≤ kk * kk ∧ kk * kk ≤ 100000000 := ⟨Int.mul_nonneg k0 k0, by
      have := Int.mul_le_mul k1 k1 k0 (by omega : (0 : Int) ≤ 10000)
      omega⟩
    refine ⟨_, rfl, _, rfl, kk, kk, rfl, rfl, .inl (by omega), kk * kk, 3, rfl, rfl, ?_⟩
    have fin : ∀ N : Int, 0 ≤ N → N ≤ 200000000 → -(2 ^ 64 : Int) < N ∧ N < 2 ^ 64 := fun N h0 h1 => by omega
    refine ⟨_, rfl, a, _, rfl, .inl hS, _, 0, rfl, rfl, _, rfl, ?_⟩
    rw [hl]
    by_cases h0 : (0 : Int) < (ns.length : Int)
    · refine ite_t (decide_eq_true h0) ?_
      have j0 := Int.emod_nonneg kk (show (ns.length : Int) ≠ 0 by omega)
      have j1 := Int.emod_lt_of_pos kk h0
      obtain ⟨x, hx⟩ := at_ (kk % (ns.length : Int)) j0 j1
      have y0 := Int.emod_nonneg x (show (65521 : Int) ≠ 0 by omega)
      have y1 := Int.emod_lt_of_pos x (show (0 : Int) < 65521 by omega)
      refine ⟨_, rfl, _, rfl, _, rfl, _, rfl, a, _, rfl, .inl hS, kk, _, rfl, rfl, (by rw [hl]; exact h0), a, _, _, _, rfl, rfl, hS, (by rw [hl]; exact hx), x, 65521, rfl, rfl, by omega, kk * kk + 3, x % 65521, rfl, rfl, ?_⟩
      exact ⟨_, rfl, kk * kk + 3 + x % 65521, 48271, rfl, rfl, .inl (fin _ (by omega) (by omega)), _, 65521, rfl, rfl, by omega, _, rfl, _, m, rfl, rfl, by omega, qv _⟩
    · refine ite_f (decide_eq_false h0) ?_
      exact ⟨_, rfl, kk * kk + 3, 48271, rfl, rfl, .inl (fin _ (by omega) (by omega)), _, 65521, rfl, rfl, by omega, _, rfl, _, m, rfl, rfl, by omega, qv _⟩
end
end Wd
namespace Wd
open PySem L2
open TL (tl tl_append ext_tl mk_tl partition_app partition_none len_tl)
theorem at_any {α : Type} {xs : List α} {z : Int} {j : Nat} {v : α} (e : z = (j : Int)) (h : xs[j]? = some v) : atI xs z = some v := by rw [e]; exact atI_nat h
theorem smalls_at {j : Nat} (h : j < 26) : ∃ c, smalls[j]? = some c ∧ c ∈ smalls := by
  have hl : smalls.length = 26 := rfl
  exact ⟨smalls[j], List.getElem?_eq_getElem (by omega), List.getElem_mem _⟩
theorem wsigns_at {j : Nat} (h : j < 36) : ∃ c, wsigns[j]? = some c ∧ c ∈ wsigns := by
  have hl : wsigns.length = 36 := rfl
  exact ⟨wsigns[j], List.getElem?_eq_getElem (by omega), List.getElem_mem _⟩
theorem small_cps : ("abcdefghijklmnopqrstuvwxyz" : Str).cps.toList = smalls := by rw [small_str]; rfl
theorem small_len : ("abcdefghijklmnopqrstuvwxyz" : Str).length ≤ sizeLine := by rw [small_str, S_len]; exact sz _ (by decide)
theorem rep_flat (n : Nat) : (List.replicate n [97]).flatten = List.replicate n 97 := by
  induction n with
  | zero => rfl
  | succ n ih => rw [List.replicate_succ, List.flatten_cons, ih]; rfl
theorem emod_cast (a b : Nat) : (a : Int) % (b : Int) = ((a % b : Nat) : Int) := (Int.natCast_emod a b).symm
section
variable {P : Program} {w : World} {K : PySem.W.Frag} {mg : Str → Option Value} {base : Heap}
/-! ### _law_label -/
def spLabel : Sp := fun vs H Q _ => ∃ n : Nat, vs = [nV n] ∧ n < 3328 ∧ ∀ (l : List Nat) (H' : Hp), LabOk l → Same H H' → Q (.str (S l)) H'
abbrev nLabel : List Str := ["_law_number", "_law_size", "_law_place", "_law_sign"]
theorem scLabel : FnScope nLabel ["_law_number"] (defScope sLabel) := ⟨rfl, rfl, rfl, by decide +kernel, rfl, by decide +kernel, by decide +kernel⟩
theorem ok_label {f : Addr} {fd : FuncData} (F : Fun K "_law_label" "_law_label" sLabel f fd) : FnOk P w K mg base CX0 1 f fd ["_law_number"] spLabel := by
  refine F.ok scLabel (fun vs H Q E h => ?_) (fun cdv A0 outer s H vs Q E hr h => ?_)
  · obtain ⟨n, rfl, _⟩ := h
    rfl
  obtain ⟨n, rfl, hn, k⟩ := h
  refine ⟨_, pss_cons (ps_set (i := 1) scLabel.nd rfl (.inl rfl) (pe_op op_add pe_int (pe_op op_mod (pv 0) pe_int)))
    (pss_cons (ps_set (i := 2) scLabel.nd rfl (.inl rfl) (pe_op op_mod (pe_op op_mod (pe_op op_fdiv (pv 0) pe_int) pe_int) (pv 1)))
    (pss_cons (ps_set (i := 3) scLabel.nd rfl (.inl rfl) (pe_ix ix_str pe_str (pe_op op_mod (pe_op op_fdiv (pv 0) pe_int) pe_int) (fun _ _ => rfl)))
    (pss_one (ps_ret (pe_op op_add_str (pe_op op_add_str (pe_op op_add_str (pe_op op_mul_str pe_str (pv 2)) (pv 3)) (pe_op op_mul_str pe_str (pe_op op_sub (pe_op op_sub (pv 1) (pv 2)) pe_int)))
      (pe_ix ix_list (pe_lst (pa_cons pe_str (pa_cons pe_str pa_nil))) (pe_op op_mod (pe_op op_fdiv (pv 0) pe_int) pe_int) (fun _ _ => rfl))))))), ?_⟩
  have es : (1 : Int) + (n : Int) % 8 = ((1 + n % 8 : Nat) : Int) := by omega
  have ep : (n : Int) / 8 % 8 % (1 + (n : Int) % 8) = ((n / 8 % 8 % (1 + n % 8) : Nat) : Int) := by
    rw [es, show (n : Int) / 8 % 8 = ((n / 8 % 8 : Nat) : Int) by omega, emod_cast]
  have hpl : n / 8 % 8 % (1 + n % 8) < 1 + n % 8 := Nat.mod_lt _ (by omega)
  obtain ⟨c, hc, hcm⟩ := smalls_at (j := n / 64 % 26) (by omega)
  -- size, place, sign
  refine ⟨_, rfl, (n : Int), 8, rfl, rfl, by omega, 1, (n : Int) % 8, rfl, rfl, ?_⟩
  refine ⟨_, rfl, (n : Int), 8, rfl, rfl, ⟨by decide, by decide⟩, (n : Int) / 8, 8, rfl, rfl, by omega, _, rfl, (n : Int) / 8 % 8, 1 + (n : Int) % 8, rfl, rfl, by omega, ?_⟩
  refine ⟨_, rfl, (n : Int), 64, rfl, rfl, ⟨by decide, by decide⟩, (n : Int) / 64, 26, rfl, rfl, by omega, ("abcdefghijklmnopqrstuvwxyz" : Str), (n : Int) / 64 % 26, c, rfl, rfl, small_len, (by rw [small_cps]; exact at_any (z := (n : Int) / 64 % 26) (j := n / 64 % 26) (by omega) hc), ?_⟩
  -- the label
  generalize hp : n / 8 % 8 % (1 + n % 8) = pl at ep hpl
  refine ⟨_, rfl, [97], pl, congrArg V.str str97, congrArg V.int ep, by omega, by simp, ?_⟩
  rw [rep_flat]
  refine ⟨_, rfl, S (List.replicate pl 97), S [c], rfl, rfl, (by rw [S_len, S_len]; exact sz _ (by simp; omega)), ?_⟩
  refine ⟨_, rfl, _, rfl, 1 + (n : Int) % 8, _, rfl, rfl, _, 1, rfl, rfl, [97], 1 + n % 8 - pl - 1, congrArg V.str str97, congrArg V.int (by rw [ep]; omega), by omega, by simp, ?_⟩
  rw [rep_flat, S_app]
  refine ⟨S (List.replicate pl 97 ++ [c]), S (List.replicate (1 + n % 8 - pl - 1) 97), rfl, rfl, (by rw [S_len, S_len]; exact sz _ (by simp; omega)), ?_⟩
  rw [S_app]
  refine ⟨(by show 2 ≤ sizeLine; decide), fun q hq => ?_⟩
  have lens : (List.replicate pl 97 ++ [c] ++ List.replicate (1 + n % 8 - pl - 1) 97).length = 1 + n % 8 := by simp; omega
  have mem : ∀ x ∈ List.replicate pl 97 ++ [c] ++ List.replicate (1 + n % 8 - pl - 1) 97, x ∈ smalls := fun x hx => by
    simp only [List.mem_append, List.mem_replicate, List.mem_singleton] at hx
    rcases hx with (⟨_, rfl⟩ | rfl) | ⟨_, rfl⟩
    · decide
    · exact hcm
    · decide
  generalize List.replicate pl 97 ++ [c] ++ List.replicate (1 + n % 8 - pl - 1) 97 = t at lens mem
  have s1 := same_new hq (.lst [.str "", .str ":"])
  refine ⟨_, rfl, (n : Int), 1664, rfl, rfl, ⟨by decide, by decide⟩, (n : Int) / 1664, 2, rfl, rfl, by omega, q, _, (n : Int) / 1664 % 2, .str (S (if n / 1664 % 2 = 1 then [58] else [])), rfl, rfl, SqL.of upd_same, at_of (j := n / 1664 % 2) (by omega) ?_, S t, S (if n / 1664 % 2 = 1 then [58] else []), rfl, rfl, ?_, ?_⟩
  · by_cases h : n / 1664 % 2 = 1
    · rw [h, if_pos rfl, ← colon58]
      rfl
    · rw [if_neg h, show n / 1664 % 2 = 0 by omega, ← str_nil]
      rfl
  · rw [S_len, S_len]
    exact sz _ (by split <;> simp <;> omega)
  · rw [S_app]
    refine k _ _ ⟨t, decide (n / 1664 % 2 = 1), ?_, by omega, by omega, mem⟩ s1
    by_cases h : n / 1664 % 2 = 1
    · simp [h]
    · simp [h]
/-! ### _law_labels -/
theorem inV_str (x : List Nat) (ls : List (List Nat)) : inV (V.str (S x)) (ls.map fun l => V.str (S l)) = decide (x ∈ ls) := by
  unfold inV
  rw [List.any_map]
  induction ls with
  | nil => rfl
  | cons a l ih =>
    rw [List.any_cons, ih]
    show ((S a == S x) || decide (x ∈ l)) = decide (x ∈ a :: l)
    by_cases h : x = a
    · subst h; simp
    · have h1 : (S a == S x) = false := by
        rw [beq_eq_false_iff_ne]
        exact fun e => h (S_inj e).symm
      rw [h1]
      simp [h]
theorem flat_strs (l : List (List Nat)) : (l.map fun l => V.str (S l)).all flatV = true := by
  rw [List.all_map]
  exact List.all_eq_true.mpr fun _ _ => rfl
def LabsAt (H : Hp) (p : Addr) (ls : List (List Nat)) : Prop := H p = some (.lst (ls.map fun l => V.str (S l)))
def spLabels (K : PySem.W.Frag) : Sp := fun vs H Q _ => ∃ (a : Addr) (ns : List Int) (kk : Int), vs = [.ref a, .int kk] ∧ SqL K H a (ns.map V.int) ∧ ns.length ≤ 63 ∧ 0 ≤ kk ∧ kk ≤ 1000 ∧
  ∀ (p : Addr) (H' : Hp) (ls : List (List Nat)), Same H H' → H p = none → LabsAt H' p ls → 1 ≤ ls.length → ls.length ≤ 4 → (∀ l ∈ ls, LabOk l) → ls.Nodup → Q (.ref p) H'
abbrev nLabels : List Str := ["_law_script", "_law_k", "_law_labels_here", "_law_j", "_law_label_here"]
theorem scLabels : FnScope nLabels ["_law_script", "_law_k"] (defScope sLabels) := ⟨rfl, rfl, rfl, by decide +kernel, rfl, by decide +kernel, by decide +kernel⟩
theorem ok_labels {f fD fL : Addr} {fd fdD fdL : FuncData} (F : Fun K "_law_labels" "_law_labels" sLabels f fd) (mr : mg "range" = none) (GD : FnOk P w K mg base CX0 1 fD fdD ["_law_script", "_law_k", "_law_many"] (spDraw K)) (bD : Binds K fdD ["_law_script", "_law_k", "_law_many"] []) (kD : PySem.W.keepIn K (.ref fD) = true) (mD : mg "_law_draw" = some (.ref fD))
    (GL : FnOk P w K mg base CX0 1 fL fdL ["_law_number"] spLabel) (bL : Binds K fdL ["_law_number"] []) (kL : PySem.W.keepIn K (.ref fL) = true) (mL : mg "_law_label" = some (.ref fL)) :
    FnOk P w K mg base CX0 2 f fd ["_law_script", "_law_k"] (spLabels K) := by
  refine F.ok scLabels (fun vs H Q E h => ?_) (fun cdv A0 outer s H vs Q E hr h => ?_)
  · obtain ⟨a, ns, kk, rfl, _⟩ := h
    rfl
  obtain ⟨a, ns, kk, rfl, hS, hn, k0, k1, k⟩ := h
  refine ⟨_, pss_cons (ps_set (i := 2) scLabels.nd rfl (.inl rfl) (pe_lst pa_nil))
    (pss_cons (ps_for PassesOwn.never rfl (pi_range1 rfl mr (pa_cons pe_int pa_nil)) (pg_name (i := 3) scLabels.nd rfl (.inl rfl))
      (pss_cons (ps_set (i := 4) scLabels.nd rfl (.inl rfl) (pe_call GL hr rfl mL kL bL .nil pass0 (pa_cons (pe_call GD hr rfl mD kD bD .nil pass0 (pa_cons (pv 0) (pa_cons (pe_op op_add (pv 1) (pv 3)) (pa_cons pe_int pa_nil)))) pa_nil)))
      (pss_one (ps_if (pt_cmpR op_notIn_seq (pv 4) (pv 2) rfl) (pss_one (ps_expr (pe_bm PySem.F.plainAttrs_list PySem.F.slot_list_append PySem.F.type_list_append mt_append (pv 2) (pa_cons (pv 4) pa_nil)))) pss_nil))))
    (pss_one (ps_ret (pv 2)))), ?_⟩
  refine ⟨Nat.zero_le _, fun p hp => ?_⟩
  refine ⟨4, rfl, by decide, by decide, ?_⟩
  refine for_range (lo := 0) (n := 4) (fun i σ H' => ∃ (y3 y4 : Option V) (ls : List (List Nat)), σ = [some (.ref a), some (.int kk), some (.ref p), y3, y4] ∧ Same H H' ∧ LabsAt H' p ls ∧ (0 < i → 1 ≤ ls.length) ∧ ls.length ≤ i ∧ (∀ l ∈ ls, LabOk l) ∧ ls.Nodup)
    ⟨none, none, [], rfl, same_new hp _, upd_same, fun h => absurd h (by omega), Nat.le_refl _, fun _ h => (nomatch h), List.nodup_nil⟩ ?_ ?_
  · rintro i σ H1 hi ⟨y3, y4, ls, rfl, s1, hL, hl1, hl2, hok, hnd⟩
    refine ⟨_, rfl, _, rfl, _, rfl, kk, (0 + (i : Int)), rfl, rfl, a, ns, kk + (0 + (i : Int)), 3328, rfl, s1.seq hS, hn, by omega, by omega, by omega, fun r hr' => ⟨r, rfl, by omega, fun l H2 lo s12 => ?_⟩⟩
    have s2 := s1.trans s12
    have hL2 := s12 _ _ hL
    refine ⟨_, rfl, _, rfl, p, _, rfl, .inl (SqL.of hL2), rfl, flat_strs _, _, rfl, ?_⟩
    by_cases hin : l ∈ ls
    · refine ite_f ((congrArg Bool.not (inV_str l ls)).trans (by rw [decide_eq_true hin]; rfl)) ?_
      have : 1 ≤ ls.length := List.length_pos_of_mem hin
      exact ⟨_, _, ls, rfl, s2, hL2, fun _ => this, by omega, hok, hnd⟩
    · refine ite_t ((congrArg Bool.not (inV_str l ls)).trans (by rw [decide_eq_false hin]; rfl)) ?_
      refine ⟨_, rfl, .inl ⟨rfl, _, SqL.of hL2⟩, _, rfl, p, _, _, rfl, rfl, hL2, (by rw [List.length_map]; exact szl _ (by omega)), ?_⟩
      refine ⟨_, _, ls ++ [l], rfl, same_upd s2 hp _, ?_, fun _ => by simp, by simp; omega, fun x hx => ?_, ?_⟩
      · show upd H2 p _ p = _
        rw [upd_same, List.map_append]
        rfl
      · rcases List.mem_append.mp hx with hx | hx
        · exact hok x hx
        · rw [List.mem_singleton.mp hx]; exact lo
      · rw [List.nodup_append]
        refine ⟨hnd, by simp, fun x hx y hy e => ?_⟩
        rw [List.mem_singleton.mp hy] at e
        exact hin (e ▸ hx)
  · rintro σ H1 ⟨y3, y4, ls, rfl, s1, hL, hl1, hl2, hok, hnd⟩
    exact ⟨_, rfl, k p H1 ls s1 hp hL (hl1 (by omega)) hl2 hok hnd⟩
end
end Wd
namespace Wd
open PySem L2
open TL (tl tl_append ext_tl mk_tl partition_app partition_none len_tl)
/-! ### sorted of pairs of a text and a number -/
abbrev Pr := Addr × List Nat × Nat
def encP (p : Pr) : PyData := .tuple [.str (S p.2.1), .int (p.2.2 : Int)]
def rSortedSI (K : PySem.W.Frag) : List V → Hp → VK → Prop := fun vs H Q => ∃ (a : Addr) (ps : List Pr), vs = [V.ref a] ∧ SqL K H a (ps.map fun p => V.ref p.1) ∧ (∀ p ∈ ps, H p.1 = some (.tup [.str (S p.2.1), nV p.2.2])) ∧
  ∀ (ys : List Pr) (q : Addr), ys.Perm ps → H q = none → Q (.ref q) (upd H q (.lst (ys.map fun p => V.ref p.1)))
theorem encP_alike (p q : Pr) : PySem.W.alike (encP p) (encP q) = true := by
  unfold encP
  simp [PySem.W.alike, PySem.W.alikeAll]
theorem encP_depth (p : Pr) : (encP p).depth ≤ 10 := by
  unfold encP
  simp [PyData.depth, PyData.depthAll]
section
variable {X : Cx}
theorem each_of : ∀ {ps : List Pr} {us : List Value}, Vals (ps.map fun p => V.ref p.1) us → PySem.W.EachIs (fun (v : Value) (p : Pr) => v = Value.ref p.1) us ps
  | [], _, .nil => .nil
  | p :: ps, _, .cons r t => .cons r (each_of t)
theorem vals_of : ∀ {ps : List Pr} {us : List Value}, PySem.W.EachIs (fun (v : Value) (p : Pr) => v = Value.ref p.1) us ps → Vals (ps.map fun p => V.ref p.1) us
  | [], _, .nil => .nil
  | p :: ps, _, .cons r t => .cons r (vals_of t)
theorem each_mem' {α β : Type} {R R' : α → β → Prop} : ∀ {as : List α} {bs : List β}, PySem.W.EachIs R as bs → (∀ a b, b ∈ bs → R a b → R' a b) → PySem.W.EachIs R' as bs
  | _, _, .nil, _ => .nil
  | _, _, .cons r t, h => .cons (h _ _ List.mem_cons_self r) (each_mem' t fun a b hb => h a b (List.mem_cons_of_mem _ hb))
theorem cr_sortedSI (hu : X.A.units + 64 < cLine) : CallR X (.builtin "sorted") (rSortedSI X.K) := by
  intro pins s σ H vs us Q I r h
  obtain ⟨a, ps, rfl, hs, hx, q⟩ := h
  obtain ⟨its, rv, hl, hz⟩ := I.list hs
  obtain ⟨u, rfl, ru⟩ := vals1 r
  obtain rfl : u = Value.ref a := ru
  have e := each_of rv
  have hlen : its.length = ps.length := by rw [← rv.length, List.length_map]
  refine PySem.W.sorted_data (enc := encP) (bs := ps) hl.isList e (each_mem' e fun v p hp ev => ?_) (.of encP_alike) (.tuples fun p => ⟨_, _, rfl⟩) (by rw [← hlen, ← rv.length]; exact hz) (fun b _ => by have := encP_depth b; omega) fun out ho eo => ?_
  · subst ev
    have ht := hx p hp
    obtain ⟨_, its2, r2, o, ho, hc, n, hd⟩ := I.hok _ _ ht
    obtain ⟨u1, u2, rfl, ri, rj⟩ := vals2 r2
    obtain ⟨t1, rfl⟩ := ri
    obtain ⟨t2, rfl⟩ := rj
    exact ⟨_, .tuple ho hc hd (.cons (.str _ _) (.cons (.int _ _) .nil))⟩
  · obtain ⟨c, hc⟩ := PyProof.Rows.sortedAll_at s.heap its out.toArray
    refine ⟨.ref (s.heap.objs.size + 1), upd H (s.heap.objs.size + 1) (.lst ((ps.mergeSort (PySem.W.dataLe false encP)).map fun p => V.ref p.1)), I.laid (t' := s.toks) (fun b o e => PyProof.Rows.sortedAll_old e) (Nat.le_succ _) ⟨?_, out, c, vals_of eo, hc⟩, rfl, q _ _ (List.mergeSort_perm _ _) (I.hok.fresh (Nat.le_succ _))⟩
    rw [List.length_map, (List.mergeSort_perm _ _).length_eq, ← hlen, ← rv.length]
    exact hz
end
end Wd
namespace Wd
open PySem L2
open TL (tl tl_append ext_tl mk_tl partition_app partition_none len_tl)
/-! ### tables under work -/
def stR (rows : List (List Nat)) (p q : Nat) : Nat := (rows.getD p []).getD q 0
structure RowOk (n : Nat) (rows : List (List Nat)) : Prop where
  rl : rows.length = n
  rw_ : ∀ (p : Nat) (r : List Nat), rows[p]? = some r → r.length = n ∧ ∀ x ∈ r, x < n
  z1 : ∀ q, stR rows 0 q = 0
  z2 : ∀ p, stR rows p 0 = 0
theorem stR_at {rows : List (List Nat)} {p : Nat} {r : List Nat} (h : rows[p]? = some r) (q : Nat) : stR rows p q = r.getD q 0 := by
  unfold stR
  rw [List.getD_eq_getElem?_getD (l := rows), h]
  rfl
theorem stR_out {rows : List (List Nat)} {p : Nat} (h : rows[p]? = none) (q : Nat) : stR rows p q = 0 := by
  unfold stR
  rw [List.getD_eq_getElem?_getD (l := rows), h]
  rfl
theorem RowOk.zero {n : Nat} (h : 1 ≤ n) : RowOk n (List.replicate n (List.replicate n 0)) := by
  have hr : ∀ (p : Nat) (r : List Nat), (List.replicate n (List.replicate n 0))[p]? = some r → r = List.replicate n 0 := fun p r e => by
    rw [List.getElem?_replicate] at e
    split at e
    · exact (Option.some.inj e).symm
    · cases e
  have hz : ∀ p q, stR (List.replicate n (List.replicate n 0)) p q = 0 := fun p q => by
    cases e : (List.replicate n (List.replicate n 0))[p]? with
    | none => exact stR_out e q
    | some r =>
      rw [stR_at e, hr p r e, List.getD_eq_getElem?_getD, List.getElem?_replicate]
      split <;> rfl
  refine ⟨List.length_replicate, fun p r e => ?_, hz 0, fun p => hz p 0⟩
  rw [hr p r e]
  refine ⟨List.length_replicate, fun x hx => ?_⟩
  rw [(List.mem_replicate.mp hx).2]
  exact h
theorem RowOk.set {n : Nat} {rows : List (List Nat)} (o : RowOk n rows) {p q v : Nat} {r : List Nat} (hp : 1 ≤ p) (hq : 1 ≤ q) (hv : v < n) (hr : rows[p]? = some r) : RowOk n (rows.set p (r.set q v)) := by
  have hpl := (List.getElem?_eq_some_iff.mp hr).1
  refine ⟨by rw [List.length_set]; exact o.rl, fun p' r' e => ?_, fun q' => ?_, fun p' => ?_⟩
  · by_cases h : p' = p
    · subst h
      rw [List.getElem?_set_self hpl] at e
      cases e
      obtain ⟨h1, h2⟩ := o.rw_ _ _ hr
      refine ⟨by rw [List.length_set]; exact h1, fun x hx => ?_⟩
      rcases List.mem_or_eq_of_mem_set hx with hx | hx
      · exact h2 x hx
      · rw [hx]; exact hv
    · rw [List.getElem?_set_ne (Ne.symm h)] at e
      exact o.rw_ _ _ e
  · have e : (rows.set p (r.set q v))[0]? = rows[0]? := List.getElem?_set_ne (by omega)
    have := o.z1 q'
    unfold stR at this ⊢
    rw [List.getD_eq_getElem?_getD (l := rows.set p (r.set q v)), e, ← List.getD_eq_getElem?_getD]
    exact this
  · by_cases h : p' = p
    · subst h
      rw [stR_at (List.getElem?_set_self hpl)]
      have := o.z2 p'
      rw [stR_at hr] at this
      rw [List.getD_eq_getElem?_getD, List.getElem?_set_ne (by omega), ← List.getD_eq_getElem?_getD]
      exact this
    · have := o.z2 p'
      have e : (rows.set p (r.set q v))[p']? = rows[p']? := List.getElem?_set_ne (Ne.symm h)
      unfold stR at this ⊢
      rw [List.getD_eq_getElem?_getD (l := rows.set p (r.set q v)), e, ← List.getD_eq_getElem?_getD]
      exact this
/-- a table under work: its rows stand apart -/
structure RowsM (H0 H : Hp) (a : Addr) (rs : List Addr) (rows : List (List Nat)) : Prop where
  at_ : H a = some (.lst (rs.map V.ref))
  len : rs.length = rows.length
  nd : rs.Nodup
  new : ∀ b ∈ rs, H0 b = none
  na : a ∉ rs
  row : ∀ (i : Nat) (b : Addr) (r : List Nat), rs[i]? = some b → rows[i]? = some r → H b = some (.lst (r.map nV))
theorem RowsM.rowsAt {H0 H : Hp} {a : Addr} {rs : List Addr} {rows : List (List Nat)} (h : RowsM H0 H a rs rows) : RowsAt H a rows := ⟨rs, h.at_, h.len, h.row⟩
theorem RowsM.set {H0 H : Hp} {a : Addr} {rs : List Addr} {rows : List (List Nat)} (h : RowsM H0 H a rs rows) {p : Nat} {b : Addr} (hb : rs[p]? = some b) (r' : List Nat) : RowsM H0 (upd H b (.lst (r'.map nV))) a rs (rows.set p r') := by
  have hm := List.mem_of_getElem? hb
  have nab : a ≠ b := fun e => h.na (by rw [e]; exact hm)
  refine ⟨by rw [upd_ne nab]; exact h.at_, by rw [List.length_set]; exact h.len, h.nd, h.new, h.na, fun i b' r e1 e2 => ?_⟩
  by_cases hi : i = p
  · subst hi
    rw [hb] at e1
    cases e1
    have hl : i < rows.length := by rw [← h.len]; exact (List.getElem?_eq_some_iff.mp hb).1
    rw [List.getElem?_set_self hl] at e2
    cases e2
    exact upd_same
  · rw [List.getElem?_set_ne (Ne.symm hi)] at e2
    have nb : b' ≠ b := fun e => hi (nd_ix h.nd e1 (by rw [e]; exact hb))
    rw [upd_ne nb]
    exact h.row i b' r e1 e2
/-- the law's labels: the i-th -/
theorem LabsAt.get {H : Hp} {p : Addr} {ls : List (List Nat)} (h : LabsAt H p ls) {i : Nat} {l : List Nat} (e : ls[i]? = some l) : (ls.map fun l => V.str (S l))[i]? = some (.str (S l)) := by
  rw [List.getElem?_map, e]
  rfl
def lcScope : Expr → Scope
  | .ListComp _ _ sc _ => sc
  | _ => { kind := .function, names := [], isGenerator := false, isCoroutine := false }
def asgVal : Stmt → Expr
  | .Assign _ e _ => e
  | _ => .Constant .none 0 ⟨0, 0, 0, 0⟩
section
variable {P : Program} {w : World} {K : PySem.W.Frag} {mg : Str → Option Value} {base : Heap}
/-! ### _law_machine -/
def spMachine (K : PySem.W.Frag) : Sp := fun vs H Q _ => ∃ (a lp : Addr) (ns : List Int) (kk sz : Int) (n : Nat) (ls : List (List Nat)), vs = [.ref a, .int kk, .int sz, .ref lp] ∧ SqL K H a (ns.map V.int) ∧ ns.length ≤ 63 ∧ 0 ≤ kk ∧ kk ≤ 1000 ∧ sz = (n : Int) ∧ 1 ≤ n ∧ n ≤ 6 ∧
  LabsAt H lp ls ∧ 1 ≤ ls.length ∧ ls.length ≤ 4 ∧ (∀ l ∈ ls, LabOk l) ∧ ls.Nodup ∧
  ∀ (t : Addr) (H' : Hp) (M : Mach), Same H H' → MachAt K H' t M → M.Ok → M.n = n → M.starts.length ≤ 4 → M.good.length ≤ 6 → Q (.ref t) H'
abbrev nMachine : List Str := ["_law_script", "_law_k", "_law_size", "_law_labels_here", "_law_starts", "_law_j", "_law_state_here", "_law_p", "_law_q", "_law_steps", "_law_good"]
theorem scMachine : FnScope nMachine ["_law_script", "_law_k", "_law_size", "_law_labels_here"] (defScope sMachine) := ⟨rfl, rfl, rfl, by decide +kernel, rfl, by decide +kernel, by decide +kernel⟩
abbrev scOut : Scope := lcScope (asgVal ((defBody sMachine).getD 3 (.Pass ⟨0, 0, 0, 0⟩)))
theorem ok_machine {f fD : Addr} {fd fdD : FuncData} (F : Fun K "_law_machine" "_law_machine" sMachine f fd) (ml : mg "len" = none) (mr : mg "range" = none) (ms : mg "sorted" = none) (GD : FnOk P w K mg base CX0 1 fD fdD ["_law_script", "_law_k", "_law_many"] (spDraw K)) (bD : Binds K fdD ["_law_script", "_law_k", "_law_many"] []) (kD : PySem.W.keepIn K (.ref fD) = true) (mD : mg "_law_draw" = some (.ref fD)) :
    FnOk P w K mg base CX0 2 f fd ["_law_script", "_law_k", "_law_size", "_law_labels_here"] (spMachine K) := by
  refine F.ok scMachine (fun vs H Q E h => ?_) (fun cdv A0 outer s H vs Q E hr h => ?_)
  · obtain ⟨a, lp, ns, kk, sz, n, ls, rfl, _⟩ := h
    rfl
  obtain ⟨a, lp, ns, kk, sz_, n, ls, rfl, hS, hn, k0, k1, rfl, n1, n6, hL, hl1, hl4, hlo, hlnd, k⟩ := h
  refine ⟨_, pss_cons (ps_set (i := 4) scMachine.nd rfl (.inl rfl) (pe_lst pa_nil))
    (pss_cons (ps_for PassesOwn.never rfl (pi_range1 rfl mr (pa_cons (pe_callB call_len_seq rfl ml boot_len (pa_cons (pv 3) pa_nil)) pa_nil)) (pg_name (i := 5) scMachine.nd rfl (.inl rfl))
      (pss_cons (ps_set (i := 6) scMachine.nd rfl (.inl rfl) (pe_call GD hr rfl mD kD bD .nil pass0 (pa_cons (pv 0) (pa_cons (pe_op op_add (pv 1) (pv 5)) (pa_cons (pv 2) pa_nil)))))
      (pss_one (ps_if (pt_cmpR op_gt (pv 6) pe_int (nomark _)) (pss_one (ps_expr (pe_bm PySem.F.plainAttrs_list PySem.F.slot_list_append PySem.F.type_list_append mt_append (pv 4) (pa_cons (pe_tup (pa_cons (pe_ix ix_list (pv 3) (pv 5) (fun _ _ => rfl)) (pa_cons (pv 6) pa_nil))) pa_nil)))) pss_nil))))
    (pss_cons (ps_set (i := 1) scMachine.nd rfl (.inr rfl) (pe_op op_add (pv 1) (pe_callB call_len_seq rfl ml boot_len (pa_cons (pv 3) pa_nil))))
    (pss_cons (ps_setLc (i := 9) (own := [("_law_p", 7)]) (g := gName 7) (tt := tYes) (te := tLc (iRng1 (tCons (tVar 2) tNil)) (gName 8) tYes (tC (.int 0)) [8]) rfl scMachine.nd rfl rfl (sw_true rfl rfl rfl (by decide +kernel)) (pi_range1 rfl mr (pa_cons (pv 2) pa_nil)) (blkOk_by (N := nMachine) (sc := defScope sMachine) (by decide +kernel))
      (fun _ _ _ _ _ => pg_name (i := 7) scMachine.nd rfl (Or.inl rfl)) (fun _ _ _ _ _ => pts_nil)
      (fun _ _ _ _ _ => pe_lc (own := [("_law_q", 8)]) (g := gName 8) (tt := tYes) (te := tC (.int 0)) rfl scMachine.nd (pi_range1 rfl mr (pa_cons (pv 2) pa_nil)) (blkOk_by (N := nMachine) (sc := relS scOut (defScope sMachine)) (by decide +kernel))
        (fun _ _ _ _ _ => pg_name (i := 8) scMachine.nd rfl (Or.inl rfl)) (fun _ _ _ _ _ => pts_nil) (fun _ _ _ _ _ => pe_int)))
    (pss_cons (ps_for PassesOwn.never rfl (pi_range2 rfl mr (pa_cons pe_int (pa_cons (pv 2) pa_nil))) (pg_name (i := 7) scMachine.nd rfl (.inl rfl))
      (pss_one (ps_for PassesOwn.never rfl (pi_range2 rfl mr (pa_cons pe_int (pa_cons (pv 2) pa_nil))) (pg_name (i := 8) scMachine.nd rfl (.inl rfl))
        (pss_cons (ps_asg (pe_call GD hr rfl mD kD bD .nil pass0 (pa_cons (pv 0) (pa_cons (pv 1) (pa_cons (pv 2) pa_nil)))) (pg_sub (pe_ix ix_list (pv 9) (pv 7) (fun _ _ => rfl)) (pv 8) set_list))
        (pss_one (ps_set (i := 1) scMachine.nd rfl (.inr rfl) (pe_op op_add (pv 1) pe_int)))))))
    (pss_cons (ps_setLc (i := 10) (own := [("_law_state_here", 6)]) (g := gName 6) (tt := tTest (tOp rEq (tCall (spDraw K) [] E0 (tCons (tVar 0) (tCons (tOp (rI0 fun i j => .int (i + j)) (tVar 1) (tVar 6)) (tCons (tC (.int 2)) tNil)))) (tC (.int 1)))) (te := tVar 6) rfl scMachine.nd rfl rfl (sw_true rfl rfl rfl (by decide +kernel)) (pi_range2 rfl mr (pa_cons pe_int (pa_cons (pv 2) pa_nil))) (blkOk_by (N := nMachine) (sc := defScope sMachine) (by decide +kernel))
      (fun _ _ _ _ _ => pg_name (i := 6) scMachine.nd rfl (Or.inl rfl)) (fun _ _ _ _ _ => pts_one (pt_cmpR op_eq (pe_call GD hr rfl mD kD bD .nil pass0 (pa_cons (pv 0) (pa_cons (pe_op op_add (pv 1) (pv 6)) (pa_cons pe_int pa_nil)))) pe_int (nomark _))) (fun _ _ _ _ _ => pv 6))
    (pss_one (ps_ret (pe_tup (pa_cons (pe_callB (cr_sortedSI hr.units) rfl ms (by decide +kernel) (pa_cons (pv 4) pa_nil)) (pa_cons (pv 9) (pa_cons (pv 10) pa_nil))))))))))), ?_⟩
  refine ⟨Nat.zero_le _, fun st hst => ?_⟩
  -- the starts
  have hll : (((ls.map fun l => V.str (S l)).length : Nat) : Int) = (ls.length : Int) := by rw [List.length_map]
  have hm0 : ((((ls.map fun l => V.str (S l)).length : Nat) : Int)).toNat = ls.length := by rw [hll]; omega
  refine ⟨_, rfl, lp, _, rfl, .inl (SqL.of ((same_new hst _) _ _ hL)), _, rfl, by omega, by omega, ?_⟩
  refine for_range (lo := 0) (n := ((((ls.map fun l => V.str (S l)).length : Nat) : Int)).toNat) (fun i σ H' => ∃ (y5 y6 : Option V) (ps : List Pr), σ = [some (.ref a), some (.int kk), some (.int (n : Int)), some (.ref lp), some (.ref st), y5, y6, none, none, none, none] ∧ Same H H' ∧ H' st = some (.lst (ps.map fun p => V.ref p.1)) ∧
      (∀ p ∈ ps, H' p.1 = some (.tup [.str (S p.2.1), nV p.2.2])) ∧ (ps.map fun p => p.2.1).Sublist (ls.take i) ∧ ∀ p ∈ ps, 1 ≤ p.2.2 ∧ p.2.2 < n)
    ⟨none, none, [], rfl, same_new hst _, upd_same, fun _ h => (nomatch h), List.nil_sublist _, fun _ h => (nomatch h)⟩ ?_ ?_
  · rintro i σ H1 hi ⟨y5, y6, ps, rfl, s1, hps, hpt, hsub, hpr⟩
    rw [hm0] at hi
    refine ⟨_, rfl, _, rfl, _, rfl, kk, (0 + (i : Int)), rfl, rfl, _, rfl, a, ns, kk + (0 + (i : Int)), (n : Int), rfl, s1.seq hS, hn, by omega, by omega, by omega, fun r hr' => ?_⟩
    refine ⟨_, rfl, (r : Int), 0, rfl, rfl, _, rfl, ?_⟩
    have etk : ls.take (i + 1) = ls.take i ++ [ls[i]] := by rw [List.take_add_one, List.getElem?_eq_getElem hi]; rfl
    by_cases h0 : 0 < r
    · refine ite_t (decide_eq_true (by omega)) ?_
      have hpl : ps.length ≤ 4 := by
        have := hsub.length_le
        rw [List.length_map, List.length_take] at this
        omega
      refine ⟨_, rfl, .inl ⟨rfl, _, SqL.of hps⟩, _, rfl, _, rfl, lp, _, _, _, rfl, rfl, SqL.of (s1 _ _ hL), at_of (j := i) (by omega) (LabsAt.get hL (List.getElem?_eq_getElem hi)), _, rfl, (by show 2 ≤ sizeLine; decide), fun q hq => ?_⟩
      have nsq : st ≠ q := ne_of_none hps hq
      refine ⟨st, _, _, rfl, rfl, (by rw [upd_ne nsq]; exact hps), (by rw [List.length_map]; exact szl _ (by omega)), ?_⟩
      refine ⟨_, _, ps ++ [(q, ls[i], r)], rfl, same_upd (s1.trans (same_new hq _)) hst _, ?_, fun p hp => ?_, ?_, fun p hp => ?_⟩
      · rw [upd_same, List.map_append]
        rfl
      · rcases List.mem_append.mp hp with hp | hp
        · have := hpt p hp
          rw [upd_ne (ne_of this hps (by intro z; cases z)), upd_ne (ne_of_none this hq)]
          exact this
        · rw [List.mem_singleton.mp hp]
          show upd _ st _ q = _
          rw [upd_ne nsq.symm, upd_same]
      · rw [etk, List.map_append]
        exact List.Sublist.append hsub (List.Sublist.refl _)
      · rcases List.mem_append.mp hp with hp | hp
        · exact hpr p hp
        · rw [List.mem_singleton.mp hp]
          exact ⟨h0, by show r < n; omega⟩
    · refine ite_f (decide_eq_false (by omega)) ?_
      refine ⟨_, _, ps, rfl, s1, hps, hpt, ?_, hpr⟩
      rw [etk]
      exact hsub.trans (List.sublist_append_left _ _)
  rintro σ H1 ⟨y5, y6, ps, rfl, s1, hps, hpt, hsub, hpr⟩
  rw [hm0, List.take_length] at hsub
  have hpl : ps.length ≤ 4 := by
    have := hsub.length_le
    rw [List.length_map] at this
    omega
  -- _law_k = _law_k + len(labels)
  refine ⟨_, rfl, _, rfl, lp, _, rfl, .inl (SqL.of (s1 _ _ hL)), kk, _, rfl, rfl, ?_⟩
  -- the table
  have hmn : ((n : Nat) : Int).toNat = n := by omega
  refine ⟨_, rfl, (n : Int), rfl, by omega, by omega, fun D hD => ?_⟩
  refine lc_range (lo := 0) (n := ((n : Nat) : Int).toNat) (fun j H' => ∃ rs : List Addr, Same H1 H' ∧ H' D = some (.lst (rs.map V.ref)) ∧ rs.length = j ∧ rs.Nodup ∧ (∀ b ∈ rs, H1 b = none) ∧ D ∉ rs ∧ ∀ b ∈ rs, H' b = some (.lst (List.replicate n (V.int 0))))
    ⟨[], same_new hD _, upd_same, rfl, List.nodup_nil, fun _ h => (nomatch h), (by simp), fun _ h => (nomatch h)⟩ ?_ ?_
  · rintro j H2 hj ⟨rs, s2, hDr, hrl, hnd, hnew, hDn, hrow⟩
    rw [hmn] at hj
    refine ⟨wipe_own _ 7 _, _, rfl, (n : Int), rfl, by omega, by omega, fun D' hD' => ?_⟩
    refine lc_range (lo := 0) (n := ((n : Nat) : Int).toNat) (fun j H' => H' = upd H2 D' (.lst (List.replicate j (V.int 0)))) rfl ?_ ?_
    · rintro j' H' hj' rfl
      rw [hmn] at hj'
      refine ⟨wipe_own _ 8 _, List.replicate j' (V.int 0), upd_same, by rw [List.length_replicate]; exact szl _ (by omega), ?_⟩
      show upd _ D' _ = _
      rw [upd_upd, List.replicate_succ']
    · rintro H' rfl
      rw [hmn]
      have nDD : D ≠ D' := ne_of_none hDr hD'
      have hD1 : H1 D' = none := s2.free hD'
      refine ⟨rs.map V.ref, by rw [upd_ne nDD]; exact hDr, by rw [List.length_map]; exact szl _ (by omega), rs ++ [D'], same_upd (s2.trans (same_new hD' _)) hD _, ?_, by simp [hrl], ?_, fun b hb => ?_, ?_, fun b hb => ?_⟩
      · rw [upd_same, List.map_append]
        rfl
      · rw [List.nodup_append]
        refine ⟨hnd, by simp, fun x hx y hy e => ?_⟩
        rw [List.mem_singleton.mp hy] at e
        have := hrow x hx
        rw [e, hD'] at this
        cases this
      · rcases List.mem_append.mp hb with hb | hb
        · exact hnew b hb
        · rw [List.mem_singleton.mp hb]; exact hD1
      · intro hm
        rcases List.mem_append.mp hm with hm | hm
        · exact hDn hm
        · exact nDD (List.mem_singleton.mp hm)
      · rcases List.mem_append.mp hb with hb | hb
        · have := hrow b hb
          have n1 : b ≠ D := fun e => hDn (e ▸ hb)
          rw [upd_ne n1, upd_ne (ne_of_none this hD')]
          exact this
        · rw [List.mem_singleton.mp hb, upd_ne nDD.symm, upd_same]
  rintro H2 ⟨rs, s2, hDr, hrl, hnd, hnew, hDn, hrow⟩
  rw [hmn] at hrl
  have RM0 : RowsM H1 H2 D rs (List.replicate n (List.replicate n 0)) := ⟨hDr, by rw [List.length_replicate]; exact hrl, hnd, hnew, hDn, fun i b r e1 e2 => by
    rw [List.getElem?_replicate] at e2
    split at e2
    · cases e2
      rw [hrow b (List.mem_of_getElem? e1), List.map_replicate]
      rfl
    · cases e2⟩
  have hm1 : ((n : Int) - 1).toNat = n - 1 := by omega
  have hb62 : -(2 ^ 62 : Int) ≤ 1 ∧ (1 : Int) < 2 ^ 62 ∧ -(2 ^ 62 : Int) ≤ (n : Int) ∧ (n : Int) < 2 ^ 62 := by omega
  have hkl : (0 : Int) ≤ kk + ((ls.map fun l => V.str (S l)).length : Int) ∧ kk + ((ls.map fun l => V.str (S l)).length : Int) ≤ 1004 := by rw [hll]; omega
  refine ⟨_, rfl, 1, (n : Int), rfl, hb62, ?_⟩
  refine for_range (lo := 1) (n := ((n : Int) - 1).toNat) (fun i σ H' => ∃ (y7 y8 : Option V) (kv : Int) (rows : List (List Nat)), σ = [some (.ref a), some (.int kv), some (.int (n : Int)), some (.ref lp), some (.ref st), y5, y6, y7, y8, some (.ref D), none] ∧ Same H1 H' ∧ RowsM H1 H' D rs rows ∧ RowOk n rows ∧ 0 ≤ kv ∧ kv ≤ 1004 + 6 * (i : Int))
    ⟨none, none, _, _, rfl, s2, RM0, RowOk.zero n1, hkl.1, by omega⟩ ?_ ?_
  · rintro i σ H3 hi ⟨y7, y8, kv, rows, rfl, s3, RM, RO, kv0, kv1⟩
    rw [hm1] at hi
    refine ⟨_, rfl, 1, (n : Int), rfl, hb62, ?_⟩
    refine for_range (lo := 1) (n := ((n : Int) - 1).toNat) (fun j σ H' => ∃ (y8 : Option V) (kv : Int) (rows : List (List Nat)), σ = [some (.ref a), some (.int kv), some (.int (n : Int)), some (.ref lp), some (.ref st), y5, y6, some (.int (1 + (i : Int))), y8, some (.ref D), none] ∧ Same H1 H' ∧ RowsM H1 H' D rs rows ∧ RowOk n rows ∧ 0 ≤ kv ∧ kv ≤ 1004 + 6 * (i : Int) + (j : Int))
      ⟨_, _, _, rfl, s3, RM, RO, kv0, by omega⟩ ?_ ?_
    · rintro j σ H4 hj ⟨y8, kv, rows, rfl, s4, RM, RO, kv0, kv1⟩
      rw [hm1] at hj
      refine ⟨_, rfl, _, rfl, _, rfl, a, ns, kv, (n : Int), rfl, s4.seq (s1.seq hS), hn, by omega, by omega, by omega, fun r hr' => ?_⟩
      have hrn : r < n := by omega
      have hil : i + 1 < rs.length := by rw [RM.len, RO.rl]; omega
      have hib : rs[i + 1]? = some rs[i + 1] := List.getElem?_eq_getElem hil
      have hir : rows[i + 1]? = some (rows[i + 1]'(by rw [← RM.len]; exact hil)) := List.getElem?_eq_getElem _
      generalize rs[i + 1] = b at hib
      generalize rows[i + 1]'(by rw [← RM.len]; exact hil) = row at hir
      have hrw := RM.row _ _ _ hib hir
      have hrl' := (RO.rw_ _ _ hir).1
      refine ⟨_, rfl, _, rfl, D, _, _, _, rfl, rfl, SqL.of RM.at_, at_of (j := i + 1) (by omega) (getMap hib), _, rfl, b, _, (1 + (j : Int)), j + 1, rfl, rfl, hrw, ?_, ?_⟩
      · rw [show (1 + (j : Int)) = ((j + 1 : Nat) : Int) by omega]
        exact ixN_nat (by rw [List.length_map, hrl']; omega)
      · have eset : (row.map nV).set (j + 1) (nV r) = (row.set (j + 1) r).map nV := by rw [List.map_set]
        rw [eset]
        have hnb : H1 b = none := RM.new b (List.mem_of_getElem? hib)
        refine ⟨_, rfl, kv, 1, rfl, rfl, _, kv + 1, rows.set (i + 1) (row.set (j + 1) r), rfl, same_upd s4 hnb _, RM.set hib _, RO.set (by omega) (by omega) hrn hir, by omega, by omega⟩
    · rintro σ H4 ⟨y8, kv, rows, rfl, s4, RM, RO, kv0, kv1⟩
      rw [hm1] at kv1
      exact ⟨_, _, kv, rows, rfl, s4, RM, RO, kv0, by omega⟩
  rintro σ H3 ⟨y7, y8, kv, rows, rfl, s3, RM, RO, kv0, kv1⟩
  rw [hm1] at kv1
  -- the good ones
  refine ⟨_, rfl, 1, (n : Int), rfl, hb62, fun G hG => ?_⟩
  refine lc_range (lo := 1) (n := ((n : Int) - 1).toNat) (fun j H' => ∃ gs : List Nat, H' = upd H3 G (.lst (gs.map nV)) ∧ gs.length ≤ j ∧ ∀ s ∈ gs, 1 ≤ s ∧ s < n) ⟨[], rfl, Nat.le_refl _, fun _ h => (nomatch h)⟩ ?_ ?_
  · rintro j H' hj ⟨gs, rfl, hgl, hgs⟩
    rw [hm1] at hj
    have sg := same_new hG (.lst (gs.map nV))
    refine ⟨wipe_own _ 6 _, _, rfl, _, rfl, _, rfl, kv, (1 + (j : Int)), rfl, rfl, a, ns, kv + (1 + (j : Int)), 2, rfl, sg.seq (s3.seq (s1.seq hS)), hn, by omega, by omega, by omega, fun r hr' => ⟨rfl, _, rfl, ?_⟩⟩
    by_cases h1 : r = 1
    · refine ite_t ((int_eq _ _).trans (decide_eq_true (by omega))) ?_
      refine ⟨_, rfl, gs.map nV, upd_same, by rw [List.length_map]; exact szl _ (by omega), gs ++ [j + 1], ?_, by simp; omega, fun s hs => ?_⟩
      · rw [upd_upd, List.map_append]
        show upd H3 G (.lst (gs.map nV ++ [V.int (1 + (j : Int))])) = upd H3 G (.lst (gs.map nV ++ [nV (j + 1)]))
        rw [show V.int (1 + (j : Int)) = nV (j + 1) from congrArg V.int (by omega)]
      · rcases List.mem_append.mp hs with hs | hs
        · exact hgs s hs
        · rw [List.mem_singleton.mp hs]
          omega
    · refine ite_f ((int_eq _ _).trans (decide_eq_false (by omega))) ?_
      exact ⟨gs, rfl, by omega, hgs⟩
  rintro H4 ⟨gs, rfl, hgl, hgs⟩
  rw [hm1] at hgl
  have sg := same_new hG (.lst (gs.map nV))
  -- sorted(starts), steps, good
  have s4 := s3.trans sg
  refine ⟨_, rfl, st, ps, rfl, SqL.of (s4 _ _ hps), fun p hp => s4 _ _ (hpt p hp), fun ys q hperm hq => ?_⟩
  have sq := same_new hq (.lst (ys.map fun p => V.ref p.1))
  refine ⟨_, rfl, _, rfl, (by show 3 ≤ sizeLine; decide), fun t ht => ?_⟩
  have stt := same_new ht (.tup [.ref q, .ref D, .ref G])
  have s5 := (s4.trans sq).trans stt
  have hyl : ys.length ≤ 4 := by rw [hperm.length_eq]; exact hpl
  refine k t _ ⟨n, ys.map (·.2), rows, gs⟩ (s1.trans s5) ⟨q, D, G, SqT.of upd_same, ?_, ?_, ?_⟩ ?_ rfl (by rw [List.length_map]; exact hyl) (by show gs.length ≤ 6; omega)
  · refine ⟨ys.map (·.1), ?_, by rw [List.length_map, List.length_map], fun i b p e1 e2 => ?_⟩
    · have := stt _ _ (show upd _ q _ q = some (HO.lst (ys.map fun p => V.ref p.1)) from upd_same)
      rw [this, List.map_map]
      rfl
    · rw [List.getElem?_map] at e1 e2
      cases ey : ys[i]? with
      | none => rw [ey] at e1; cases e1
      | some y =>
        rw [ey] at e1 e2
        cases e1
        cases e2
        exact s5 _ _ (hpt y (hperm.mem_iff.mp (List.mem_of_getElem? ey)))
  · exact (RM.rowsAt.mono ((sg.trans sq).trans stt))
  · exact stt _ _ (sq _ _ upd_same)
  · refine ⟨n1, RO.rl, RO.rw_, RO.z1, RO.z2, fun l s hm => ?_, ?_, hgs⟩
    · obtain ⟨y, hy, e⟩ := List.mem_map.mp hm
      have hyp := hperm.mem_iff.mp hy
      have h1 := hpr y hyp
      have h2 : y.2.1 ∈ ls := hsub.subset (List.mem_map.mpr ⟨y, hyp, rfl⟩)
      rw [e] at h1 h2
      exact ⟨hlo _ h2, h1⟩
    · rw [List.map_map]
      have hp2 : (ys.map ((·.1) ∘ (·.2))).Perm (ps.map fun p => p.2.1) := hperm.map _
      exact hp2.nodup_iff.mpr (hsub.nodup hlnd)
end
end Wd
namespace Wd
open PySem L2
open TL (tl tl_append ext_tl mk_tl partition_app partition_none len_tl)
theorem joinL_nil : ∀ ps : List (List Nat), TL.joinL [] ps = ps.flatten
  | [] => rfl
  | [p] => by simp [TL.joinL]
  | p :: q :: r => by
    show p ++ ([] ++ TL.joinL [] (q :: r)) = _
    rw [joinL_nil (q :: r)]
    simp
theorem join_nil (ps : List (List Nat)) : Txt.join (S []) (ps.map S) = S ps.flatten := by
  apply ext_tl
  rw [TL.join_eq, TL.tl_join, List.map_map]
  show TL.joinL [] (ps.map (tl ∘ S)) = _
  rw [show (tl ∘ S) = id from rfl, List.map_id, joinL_nil]
  rfl
theorem cutV_to (xs : List V) (n : Nat) : cutV xs none (some (n : Int)) = xs.take n := by
  unfold cutV
  rw [show HT.sIx xs.length 0 none = 0 from HT.sIx_none _ _, show HT.sIx xs.length xs.length (some (n : Int)) = min n xs.length from HT.sIx_nat _ _ _, List.drop_zero, Nat.sub_zero]
  rcases Nat.le_total n xs.length with h | h
  · rw [Nat.min_eq_left h]
  · rw [Nat.min_eq_right h, List.take_length, List.take_of_length_le h]
theorem cutV_from (xs : List V) (n : Nat) : cutV xs (some (n : Int)) none = xs.drop n := by
  unfold cutV
  rw [show HT.sIx xs.length xs.length none = xs.length from HT.sIx_none _ _, show HT.sIx xs.length 0 (some (n : Int)) = min n xs.length from HT.sIx_nat _ _ _]
  rcases Nat.le_total n xs.length with h | h
  · rw [Nat.min_eq_left h, List.take_of_length_le]
    rw [List.length_drop]
    omega
  · rw [Nat.min_eq_right h, List.drop_of_length_le h, List.drop_of_length_le (Nat.le_refl _)]
    simp
theorem cut_init (l : List Nat) : cutS (S l) none (some (-1)) = S l.dropLast := by
  apply ext_tl
  show (l.drop (HT.sIx (S l).length 0 none)).take (HT.sIx (S l).length (S l).length (some (-1)) - HT.sIx (S l).length 0 none) = l.dropLast
  rw [show HT.sIx (S l).length 0 none = 0 from HT.sIx_none _ _, S_len]
  have e : HT.sIx l.length l.length (some (-1)) = l.length - 1 := by
    show (if (-1 : Int) < 0 then ((-1 : Int) + l.length).toNat else min (-1 : Int).toNat l.length) = _
    rw [if_pos (by decide)]
    omega
  rw [e, List.drop_zero, Nat.sub_zero, List.dropLast_eq_take]
/-! ### trees on the heap -/
mutual
def TrAt (H : Hp) (v : V) : Tr → Prop
  | .nd t w ks => ∃ (a b : Addr) (vs : List V), v = .ref a ∧ H a = some (.tup [.str (S t), .str (S w), .ref b]) ∧ H b = some (.tup vs) ∧ TrsAt H vs ks
def TrsAt (H : Hp) (vs : List V) : List Tr → Prop
  | [] => vs = []
  | t :: ts => ∃ v r, vs = v :: r ∧ TrAt H v t ∧ TrsAt H r ts
end
mutual
theorem TrAt.mono {H H' : Hp} (s : Same H H') : ∀ {t : Tr} {v : V}, TrAt H v t → TrAt H' v t
  | .nd t w ks, v, h => by
    simp only [TrAt] at h ⊢
    obtain ⟨a, b, vs, e, h1, h2, h3⟩ := h
    exact ⟨a, b, vs, e, s _ _ h1, s _ _ h2, TrsAt.mono s h3⟩
theorem TrsAt.mono {H H' : Hp} (s : Same H H') : ∀ {ts : List Tr} {vs : List V}, TrsAt H vs ts → TrsAt H' vs ts
  | [], vs, h => by simpa only [TrsAt] using h
  | t :: ts, vs, h => by
    simp only [TrsAt] at h ⊢
    obtain ⟨v, r, e, h1, h2⟩ := h
    exact ⟨v, r, e, TrAt.mono s h1, TrsAt.mono s h2⟩
end
theorem TrsAt.len {H : Hp} : ∀ {ts : List Tr} {vs : List V}, TrsAt H vs ts → vs.length = ts.length
  | [], vs, h => by
    simp only [TrsAt] at h
    rw [h]
    rfl
  | t :: ts, vs, h => by
    simp only [TrsAt] at h
    obtain ⟨v, r, e, _, h2⟩ := h
    rw [e, List.length_cons, List.length_cons, TrsAt.len h2]
theorem TrsAt.app {H : Hp} : ∀ {ts us : List Tr} {vs ws : List V}, TrsAt H vs ts → TrsAt H ws us → TrsAt H (vs ++ ws) (ts ++ us)
  | [], us, vs, ws, h, h' => by
    simp only [TrsAt] at h
    rw [h]
    exact h'
  | t :: ts, us, vs, ws, h, h' => by
    simp only [TrsAt] at h
    obtain ⟨v, r, e, h1, h2⟩ := h
    rw [e]
    show TrsAt H (v :: (r ++ ws)) (t :: (ts ++ us))
    simp only [TrsAt]
    exact ⟨v, _, rfl, h1, TrsAt.app h2 h'⟩
theorem TrsAt.take {H : Hp} : ∀ {ts : List Tr} {vs : List V} (n : Nat), TrsAt H vs ts → TrsAt H (vs.take n) (ts.take n)
  | [], vs, n, h => by
    simp only [TrsAt] at h
    subst h
    simp only [List.take_nil, TrsAt]
  | t :: ts, vs, 0, h => by simp only [List.take_zero, TrsAt]
  | t :: ts, vs, n + 1, h => by
    simp only [TrsAt] at h
    obtain ⟨v, r, e, h1, h2⟩ := h
    subst e
    simp only [List.take_succ_cons, TrsAt]
    exact ⟨v, _, rfl, h1, TrsAt.take n h2⟩
theorem TrsAt.drop {H : Hp} : ∀ {ts : List Tr} {vs : List V} (n : Nat), TrsAt H vs ts → TrsAt H (vs.drop n) (ts.drop n)
  | [], vs, n, h => by
    simp only [TrsAt] at h
    subst h
    simp only [List.drop_nil, TrsAt]
  | t :: ts, vs, 0, h => by
    rw [List.drop_zero, List.drop_zero]
    exact h
  | t :: ts, vs, n + 1, h => by
    simp only [TrsAt] at h
    obtain ⟨v, r, e, h1, h2⟩ := h
    subst e
    exact TrsAt.drop n h2
theorem okL_take {ts : List Tr} (h : OkL ts) (n : Nat) : OkL (ts.take n) ∧ OkL (ts.drop n) := by
  have e := List.take_append_drop n ts
  rw [← e] at h
  exact (okL_app _ _).mp h
theorem nodesL_take (ts : List Tr) (n : Nat) : nodesL (ts.take n) + nodesL (ts.drop n) = nodesL ts := by
  have e := nodesL_app (ts.take n) (ts.drop n)
  rw [List.take_append_drop] at e
  omega
theorem nodes_pos (t : Tr) : 1 ≤ t.nodes := by
  cases t with
  | nd t w ks => simp only [Tr.nodes]; omega
theorem nodesL_len (ts : List Tr) : ts.length ≤ nodesL ts := by
  induction ts with
  | nil => simp [nodesL]
  | cons t r ih =>
    have := nodes_pos t
    simp only [nodesL, List.length_cons]
    omega
section
variable {P : Program} {w : World} {K : PySem.W.Frag} {mg : Str → Option Value} {base : Heap}
/-! ### _law_word -/
def spWord : Sp := fun vs H Q _ => ∃ n : Nat, vs = [nV n] ∧ n < 1000 ∧ ∀ (l : List Nat) (H' : Hp), 1 ≤ l.length → l.length ≤ 60 → (∀ c ∈ l, c ∈ wsigns) → Same H H' → Q (.str (S l)) H'
abbrev nWord : List Str := ["_law_number", "_law_size", "_law_signs_here", "_law_j"]
theorem scWord : FnScope nWord ["_law_number"] (defScope sWord) := ⟨rfl, rfl, rfl, by decide +kernel, rfl, by decide +kernel, by decide +kernel⟩
theorem wsign_cps : ("abcdefghijklmnopqrstuvwxyz0123456789" : Str).cps.toList = wsigns := by rw [wsign_str]; rfl
theorem wsign_len : ("abcdefghijklmnopqrstuvwxyz0123456789" : Str).length ≤ sizeLine := by rw [wsign_str, S_len]; exact sz _ (by decide)
theorem ok_word {f : Addr} {fd : FuncData} (F : Fun K "_law_word" "_law_word" sWord f fd) (mr : mg "range" = none) : FnOk P w K mg base CX0 1 f fd ["_law_number"] spWord := by
  refine F.ok scWord (fun vs H Q E h => ?_) (fun cdv A0 outer s H vs Q E hr h => ?_)
  · obtain ⟨n, rfl, _⟩ := h
    rfl
  obtain ⟨n, rfl, hn, k⟩ := h
  refine ⟨_, pss_cons (ps_set (i := 1) scWord.nd rfl (.inl rfl) (pe_op op_add pe_int (pe_op op_mod (pv 0) pe_int)))
    (Evl.pss_cut (ps_if (pt_cmpR op_eq (pe_op op_mod (pe_op op_fdiv (pv 0) pe_int) pe_int) pe_int (nomark _)) (pss_one (ps_set (i := 1) scWord.nd rfl (.inl rfl) (pe_op op_sub pe_int (pe_op op_mod (pe_op op_fdiv (pv 0) pe_int) pe_int)))) pss_nil)
    (pss_cons (ps_set (i := 2) scWord.nd rfl (.inr rfl) pe_str)
    (pss_one (ps_ret (pe_join pe_str (pe_lc (own := [("_law_j", 3)]) (g := gName 3) (tt := tYes)
        (te := tOp rIxS (tVar 2) (tOp (rI (fun _ j => 0 < j) fun i j => .int (i % j)) (tOp (rI0 fun i j => .int (i + j)) (tOp (rI CDiv fun i j => .int (i / j)) (tVar 0) (tC (.int 5))) (tOp (rI CMul fun i j => .int (i * j)) (tC (.int 7)) (tVar 3))) (tC (.int 36))))
        rfl scWord.nd (pi_range1 rfl mr (pa_cons (pv 1) pa_nil)) (blkOk_by (N := nWord) (sc := defScope sWord) (by decide +kernel))
        (fun _ _ _ _ _ => pg_name (i := 3) scWord.nd rfl (Or.inl rfl)) (fun _ _ _ _ _ => pts_nil)
        (fun _ _ _ _ _ => pe_ix ix_str (pv 2) (pe_op op_mod (pe_op op_add (pe_op op_fdiv (pv 0) pe_int) (pe_op op_mul pe_int (pv 3))) pe_int) (fun _ _ => rfl)))))))), ?_⟩
  refine ⟨_, rfl, (n : Int), 5, rfl, rfl, by omega, 1, (n : Int) % 5, rfl, rfl, ?_⟩
  refine ⟨fun σ' H' => ∃ m : Nat, σ' = [some (nV n), some (.int (m : Int)), none, none] ∧ H' = H ∧ 1 ≤ m ∧ m ≤ 60, ?_, ?_⟩
  · refine ⟨_, rfl, (n : Int), 5, rfl, rfl, ⟨by decide, by decide⟩, (n : Int) / 5, 4, rfl, rfl, by omega, rfl, _, rfl, ?_⟩
    by_cases h : (n : Int) / 5 % 4 = 3
    · refine ite_t ((int_eq _ _).trans (decide_eq_true h)) ?_
      refine ⟨_, rfl, (n : Int), 20, rfl, rfl, ⟨by decide, by decide⟩, (n : Int) / 20, 2, rfl, rfl, by omega, 60, (n : Int) / 20 % 2, rfl, rfl, 60 - n / 20 % 2, ?_, rfl, by omega, by omega⟩
      show [some (nV n), some (V.int (60 - (n : Int) / 20 % 2)), none, none] = _
      rw [show (60 - (n : Int) / 20 % 2) = ((60 - n / 20 % 2 : Nat) : Int) by omega]
    · refine ite_f ((int_eq _ _).trans (decide_eq_false h)) ?_
      refine ⟨1 + n % 5, ?_, rfl, by omega, by omega⟩
      show [some (nV n), some (V.int (1 + (n : Int) % 5)), none, none] = _
      rw [show (1 + (n : Int) % 5) = ((1 + n % 5 : Nat) : Int) by omega]
  · rintro σ' H' ⟨m, rfl, rfl, m1, m60⟩
    have hm : ((m : Nat) : Int).toNat = m := by omega
    refine ⟨⟨_, rfl⟩, _, rfl, (m : Int), rfl, by omega, by omega, fun D hD => ?_⟩
    refine lc_range (lo := 0) (n := ((m : Nat) : Int).toNat) (fun j H2 => ∃ l : List Nat, H2 = upd H' D (.lst (l.map fun c => V.str (S [c]))) ∧ l.length = j ∧ ∀ c ∈ l, c ∈ wsigns) ⟨[], rfl, rfl, fun _ h => (nomatch h)⟩ ?_ ?_
    · rintro j H2 hj ⟨l, rfl, hl, hw⟩
      rw [hm] at hj
      obtain ⟨c, hc, hcm⟩ := wsigns_at (j := (n / 5 + 7 * j) % 36) (by omega)
      refine ⟨wipe_own _ 3 _, _, rfl, _, rfl, (n : Int), 5, rfl, rfl, ⟨by decide, by decide⟩, _, rfl, 7, (0 + (j : Int)), rfl, rfl, .inl (by omega), (n : Int) / 5, 7 * (0 + (j : Int)), rfl, rfl, (n : Int) / 5 + 7 * (0 + (j : Int)), 36, rfl, rfl, by omega,
        ("abcdefghijklmnopqrstuvwxyz0123456789" : Str), _, c, rfl, rfl, wsign_len, (by rw [wsign_cps]; exact at_any (j := (n / 5 + 7 * j) % 36) (by omega) hc), _, upd_same, by rw [List.length_map]; exact szl _ (by omega), l ++ [c], ?_, by simp [hl], fun x hx => ?_⟩
      · rw [upd_upd, List.map_append]
        rfl
      · rcases List.mem_append.mp hx with hx | hx
        · exact hw x hx
        · rw [List.mem_singleton.mp hx]; exact hcm
    · rintro H2 ⟨l, rfl, hl, hw⟩
      rw [hm] at hl
      have hlen : ((l.map fun c => S [c]).map (·.length)).sum = l.length := by
        rw [List.map_map]
        have : (Str.length ∘ fun c => S [c]) = fun _ => 1 := funext fun c => S_len [c]
        rw [this]
        clear hl hw this
        induction l with
        | nil => rfl
        | cons a r ih => rw [List.map_cons, List.sum_cons, ih, List.length_cons]; omega
      refine ⟨"", D, l.map fun c => S [c], rfl, rfl, .inl (SqL.of (by rw [upd_same, List.map_map]; rfl)), ?_, ?_⟩
      · rw [hlen, str_nil, S_len]
        simp
        omega
      · have e : Txt.join "" (l.map fun c => S [c]) = S l := by
          rw [str_nil]
          have := join_nil (l.map fun c => [c])
          rw [List.map_map] at this
          refine this.trans ?_
          congr 1
          clear hl hw hlen this
          induction l with
          | nil => rfl
          | cons a r ih => rw [List.map_cons, List.flatten_cons, ih]; rfl
        rw [e]
        exact k l _ (by omega) (by omega) hw (same_new hD _)
end
end Wd
namespace Wd
open PySem L2
open TL (tl tl_append ext_tl mk_tl partition_app partition_none len_tl)
theorem bootTuple : bootBuiltins "tuple" = some (.type "tuple") := by decide +kernel
theorem bootMax : bootBuiltins "max" = some (.builtin "max") := by decide +kernel
section
variable {P : Program} {w : World} {K : PySem.W.Frag} {mg : Str → Option Value} {base : Heap}
/-! ### _law_tree -/
def spTree (K : PySem.W.Frag) : Sp := fun vs H Q _ => ∃ (a lp : Addr) (ns : List Int) (kk mm : Int) (many : Nat) (ls : List (List Nat)), vs = [.ref a, .int kk, .int mm, .ref lp] ∧ SqL K H a (ns.map V.int) ∧ ns.length ≤ 63 ∧ 0 ≤ kk ∧ kk ≤ 2000 ∧ mm = (many : Int) ∧ 1 ≤ many ∧ many ≤ 9 ∧
  LabsAt H lp ls ∧ 1 ≤ ls.length ∧ ls.length ≤ 4 ∧ (∀ l ∈ ls, LabOk l) ∧
  ∀ (v : V) (t : Tr) (H' : Hp), Same H H' → TrAt H' v t → t.Ok → t.nodes = many → Q v H'
abbrev nTree : List Str := ["_law_script", "_law_k", "_law_many", "_law_labels_here", "_law_made", "_law_j", "_law_label_here", "_law_keep", "_law_word_here"]
theorem scTree : FnScope nTree ["_law_script", "_law_k", "_law_many", "_law_labels_here"] (defScope sTree) := ⟨rfl, rfl, rfl, by decide +kernel, rfl, by decide +kernel, by decide +kernel⟩
theorem ok_tree {f fD fW : Addr} {fd fdD fdW : FuncData} (F : Fun K "_law_tree" "_law_tree" sTree f fd) (ml : mg "len" = none) (mr : mg "range" = none) (mx : mg "max" = none) (mt : mg "tuple" = none) (GD : FnOk P w K mg base CX0 1 fD fdD ["_law_script", "_law_k", "_law_many"] (spDraw K)) (bD : Binds K fdD ["_law_script", "_law_k", "_law_many"] []) (kD : PySem.W.keepIn K (.ref fD) = true) (mD : mg "_law_draw" = some (.ref fD))
    (GW : FnOk P w K mg base CX0 1 fW fdW ["_law_number"] spWord) (bW : Binds K fdW ["_law_number"] []) (kW : PySem.W.keepIn K (.ref fW) = true) (mW : mg "_law_word" = some (.ref fW)) :
    FnOk P w K mg base CX0 2 f fd ["_law_script", "_law_k", "_law_many", "_law_labels_here"] (spTree K) := by
  refine F.ok scTree (fun vs H Q E h => ?_) (fun cdv A0 outer s H vs Q E hr h => ?_)
  · obtain ⟨a, lp, ns, kk, mm, many, ls, rfl, _⟩ := h
    rfl
  obtain ⟨a, lp, ns, kk, mm, many, ls, rfl, hS, hn, k0, k1, rfl, m1, m9, hL, hl1, hl4, hlo, k⟩ := h
  refine ⟨_, pss_cons (ps_set (i := 4) scTree.nd rfl (.inl rfl) (pe_lst pa_nil))
    (pss_cons (ps_for PassesOwn.never rfl (pi_range1 rfl mr (pa_cons (pv 2) pa_nil)) (pg_name (i := 5) scTree.nd rfl (.inl rfl))
      (pss_cons (ps_set (i := 6) scTree.nd rfl (.inl rfl) (pe_ix ix_list (pv 3) (pe_call GD hr rfl mD kD bD .nil pass0 (pa_cons (pv 0) (pa_cons (pe_op op_add (pv 1) (pe_op op_mul pe_int (pv 5))) (pa_cons (pe_callB call_len_seq rfl ml boot_len (pa_cons (pv 3) pa_nil)) pa_nil)))) (fun _ _ => rfl)))
      (pss_cons (ps_set (i := 7) scTree.nd rfl (.inl rfl) (pe_callB (call_max2 rfl) rfl mx bootMax (pa_cons pe_int (pa_cons (pe_op op_sub (pe_callB call_len_seq rfl ml boot_len (pa_cons (pv 4) pa_nil)) (pe_call GD hr rfl mD kD bD .nil pass0 (pa_cons (pv 0) (pa_cons (pe_op op_add (pe_op op_add (pv 1) (pe_op op_mul pe_int (pv 5))) pe_int) (pa_cons pe_int pa_nil))))) pa_nil))))
      (Evl.pss_cut (ps_if (pt_cmpR op_eq (pv 5) (pe_op op_sub (pv 2) pe_int) (nomark _)) (pss_one (ps_set (i := 7) scTree.nd rfl (.inl rfl) pe_int)) pss_nil)
      (pss_cons (ps_set (i := 8) scTree.nd rfl (.inl rfl) pe_str)
      (Evl.pss_cut (ps_if (pt_cmpR op_eq (pe_ix ix_str (pv 6) (pe_un un_neg pe_int) (fun _ _ => rfl)) pe_str (nomark _))
          (pss_cons (ps_set (i := 8) scTree.nd rfl (.inl rfl) (pe_call GW hr rfl mW kW bW .nil pass0 (pa_cons (pe_call GD hr rfl mD kD bD .nil pass0 (pa_cons (pv 0) (pa_cons (pe_op op_add (pe_op op_add (pv 1) (pv 5)) pe_int) (pa_cons pe_int pa_nil)))) pa_nil)))
          (pss_one (ps_set (i := 6) scTree.nd rfl (.inl rfl) (pe_slice sl_str (pv 6) po_none (po_some (pe_un un_neg pe_int)))))) pss_nil)
      (pss_one (ps_set (i := 4) scTree.nd rfl (.inl rfl) (pe_op op_cat (pe_slice sl_list (pv 4) po_none (po_some (pv 7)))
          (pe_lst (pa_cons (pe_tup (pa_cons (pv 6) (pa_cons (pv 8) (pa_cons (pe_callTy call_tuple_of rfl mt bootTuple (pa_cons (pe_slice sl_list (pv 4) (po_some (pv 7)) po_none) pa_nil)) pa_nil)))) pa_nil)))))))))))
    (pss_one (ps_ret (pe_ix ix_list (pv 4) pe_int (fun _ _ => rfl))))), ?_⟩
  have hm : ((many : Nat) : Int).toNat = many := by omega
  refine ⟨Nat.zero_le _, fun p0 hp0 => ?_⟩
  refine ⟨_, rfl, (many : Int), rfl, by omega, by omega, ?_⟩
  refine for_range (lo := 0) (n := ((many : Nat) : Int).toNat) (fun j σ H' => ∃ (y5 y6 y7 y8 : Option V) (mp : Addr) (ts : List Tr) (xs : List V), σ = [some (.ref a), some (.int kk), some (.int (many : Int)), some (.ref lp), some (.ref mp), y5, y6, y7, y8] ∧ Same H H' ∧ H' mp = some (.lst xs) ∧ TrsAt H' xs ts ∧ OkL ts ∧ nodesL ts = j ∧ (j = many → ts.length = 1))
    ⟨none, none, none, none, p0, [], [], rfl, same_new hp0 _, upd_same, by simp only [TrsAt], by simp only [OkL], by simp only [nodesL], fun h => by omega⟩ ?_ ?_
  · rintro j σ H1 hj ⟨y5, y6, y7, y8, mp, ts, xs, rfl, s1, hmp, hT, hok, hnd, _⟩
    rw [hm] at hj
    have hxl : xs.length ≤ 9 := by
      rw [hT.len]
      have := nodesL_len ts
      omega
    have hL1 := s1 _ _ hL
    have hll : (((ls.map fun l => V.str (S l)).length : Nat) : Int) = (ls.length : Int) := by rw [List.length_map]
    -- the label
    refine ⟨_, rfl, _, rfl, _, rfl, _, rfl, 2, (0 + (j : Int)), rfl, rfl, .inl (by omega), kk, 2 * (0 + (j : Int)), rfl, rfl, _, rfl, lp, _, rfl, .inl (SqL.of hL1), a, ns, kk + 2 * (0 + (j : Int)), _, rfl, s1.seq hS, hn, by omega, by omega, by rw [hll]; omega, fun r hr' => ?_⟩
    have hrl : r < ls.length := by rw [hll] at hr'; omega
    have lo := hlo _ (List.getElem_mem hrl)
    refine ⟨lp, _, _, _, rfl, rfl, SqL.of hL1, at_of (j := r) rfl (LabsAt.get hL (List.getElem?_eq_getElem hrl)), ?_⟩
    generalize ls[r] = l at lo
    have hl9 := lab_le9 lo
    have hlz : (S l).length ≤ sizeLine := by rw [S_len]; exact sz _ (by omega)
    -- how many are kept
    refine ⟨_, rfl, mp, _, rfl, .inl (SqL.of hmp), _, rfl, _, rfl, _, rfl, 2, (0 + (j : Int)), rfl, rfl, .inl (by omega), kk, 2 * (0 + (j : Int)), rfl, rfl, kk + 2 * (0 + (j : Int)), 1, rfl, rfl, a, ns, kk + 2 * (0 + (j : Int)) + 1, 4, rfl, s1.seq hS, hn, by omega, by omega, by omega, fun r2 hr2 => ?_⟩
    refine ⟨(xs.length : Int), (r2 : Int), rfl, rfl, 0, (xs.length : Int) - (r2 : Int), rfl, ?_⟩
    refine ⟨fun σ' H' => ∃ kp : Nat, σ' = [some (.ref a), some (.int kk), some (.int (many : Int)), some (.ref lp), some (.ref mp), some (.int (0 + (j : Int))), some (.str (S l)), some (.int (kp : Int)), y8] ∧ H' = H1 ∧ (j + 1 = many → kp = 0), ?_, ?_⟩
    · refine ⟨_, rfl, _, rfl, (many : Int), 1, rfl, rfl, rfl, _, rfl, ?_⟩
      by_cases hjm : j + 1 = many
      · refine ite_t ((int_eq _ _).trans (decide_eq_true (by omega))) ?_
        exact ⟨0, rfl, rfl, fun _ => rfl⟩
      · refine ite_f ((int_eq _ _).trans (decide_eq_false (by omega))) ?_
        refine ⟨(if (xs.length : Int) - (r2 : Int) > 0 then (xs.length : Int) - (r2 : Int) else 0).toNat, ?_, rfl, fun h => absurd h hjm⟩
        have e : (((if (xs.length : Int) - (r2 : Int) > 0 then (xs.length : Int) - (r2 : Int) else 0).toNat : Nat) : Int) = (if (xs.length : Int) - (r2 : Int) > 0 then (xs.length : Int) - (r2 : Int) else 0) := by split <;> omega
        rw [e]
        rfl
    rintro σ' H' ⟨kp, rfl, rfl, hkp⟩
    -- the word
    refine ⟨fun σ' H2 => ∃ t wd : List Nat, σ' = [some (.ref a), some (.int kk), some (.int (many : Int)), some (.ref lp), some (.ref mp), some (.int (0 + (j : Int))), some (.str (S t)), some (.int (kp : Int)), some (.str (S wd))] ∧ Same H' H2 ∧
      (1 ≤ t.length ∧ t.length ≤ 8 ∧ ∀ c ∈ t, c ∈ smalls) ∧ (wd.length ≤ 60 ∧ ∀ c ∈ wd, c ∈ wsigns), ?_, ?_⟩
    · obtain ⟨ch, hch, hch2⟩ := lab_last lo
      refine ⟨_, rfl, 1, rfl, _, _, ch, rfl, rfl, hlz, hch, rfl, _, rfl, ?_⟩
      obtain ⟨t, bb, hlt, t1, t8, tsm⟩ := id lo
      by_cases e58 : ch = 58
      · refine ite_t ((str58 ch).trans (decide_eq_true e58)) ?_
        refine ⟨_, rfl, _, rfl, _, rfl, kk, (0 + (j : Int)), rfl, rfl, kk + (0 + (j : Int)), 5, rfl, rfl, a, ns, kk + (0 + (j : Int)) + 5, 1000, rfl, s1.seq hS, hn, by omega, by omega, by omega, fun r3 hr3 => ⟨r3, rfl, by omega, fun wd H2 w1 w60 ww s12 => ?_⟩⟩
        refine ⟨_, rfl, 1, rfl, -1, rfl, S l, rfl, hlz, t, wd, ?_, s12, ⟨t1, t8, tsm⟩, w60, ww⟩
        have hcl := hch2.mpr e58
        have ebb : bb = true := by
          cases bb with
          | true => rfl
          | false =>
            exfalso
            have e : l = t := by rw [hlt]; simp
            rw [e] at hcl
            unfold colon at hcl
            rw [beq_iff_eq] at hcl
            obtain ⟨t', rfl⟩ := List.getLast?_eq_some_iff.mp hcl
            exact (small_ne (tsm 58 (by simp))).2.2 rfl
        subst ebb
        have e : l.dropLast = t := by
          rw [hlt]
          exact List.dropLast_concat
        show List.set _ 6 (some (V.str (cutS (S l) none (some (-1))))) = _
        rw [cut_init, e]
        rfl
      · refine ite_f ((str58 ch).trans (decide_eq_false e58)) ?_
        have ebb : bb = false := by
          cases bb with
          | false => rfl
          | true =>
            exfalso
            have : colon l = true := by
              rw [hlt]
              show colon (t ++ [58]) = true
              rw [colon_snoc]
              rfl
            exact e58 (hch2.mp this)
        subst ebb
        have e : l = t := by rw [hlt]; simp
        refine ⟨l, [], ?_, Same.refl _, by rw [e]; exact ⟨t1, t8, tsm⟩, by simp, fun _ h => (nomatch h)⟩
        rw [← str_nil]
        rfl
    rintro σ' H2 ⟨t, wd, rfl, s12, ht, hwd⟩
    -- the new list
    have hmp2 := s12 _ _ hmp
    have hT2 := hT.mono s12
    have s2 := s1.trans s12
    refine ⟨_, rfl, _, rfl, (kp : Int), rfl, mp, xs, rfl, SqL.of hmp2, fun p1 hp1 => ?_⟩
    have sa := same_new hp1 (.lst (cutV xs none (some (kp : Int))))
    refine ⟨_, rfl, _, rfl, _, rfl, _, rfl, (kp : Int), rfl, mp, xs, rfl, SqL.of (sa _ _ hmp2), fun p2 hp2 => ?_⟩
    have sb := same_new hp2 (.lst (cutV xs (some (kp : Int)) none))
    refine ⟨p2, _, rfl, .inl ⟨SqL.of upd_same, fun p3 hp3 => ?_⟩⟩
    have sc := same_new hp3 (.tup (cutV xs (some (kp : Int)) none))
    refine ⟨(by show 3 ≤ sizeLine; decide), fun p4 hp4 => ?_⟩
    have sd := same_new hp4 (.tup [.str (S t), .str (S wd), .ref p3])
    refine ⟨(by show 1 ≤ sizeLine; decide), fun p5 hp5 => ?_⟩
    have se := same_new hp5 (.lst [.ref p4])
    have h1 := se _ _ (sd _ _ (sc _ _ (sb _ _ upd_same)))
    refine ⟨p1, p5, _, _, rfl, rfl, h1, upd_same, ?_, fun p6 hp6 => ?_⟩
    · have := cutV_length xs none (some (kp : Int))
      exact sz _ (by simp; omega)
    · have sf := same_new hp6 (.lst (cutV xs none (some (kp : Int)) ++ [.ref p4]))
      have sall := ((((sa.trans sb).trans sc).trans sd).trans se).trans sf
      refine ⟨_, _, _, _, p6, ts.take kp ++ [Tr.nd t wd (ts.drop kp)], _, rfl, s2.trans sall, upd_same, ?_, ?_, ?_, fun hjm => ?_⟩
      · have hTa : TrsAt H2 (cutV xs none (some (kp : Int))) (ts.take kp) := by rw [cutV_to]; exact hT2.take kp
        have hTb : TrsAt H2 (cutV xs (some (kp : Int)) none) (ts.drop kp) := by rw [cutV_from]; exact hT2.drop kp
        refine TrsAt.app (hTa.mono sall) ?_
        simp only [TrsAt]
        refine ⟨_, _, rfl, ?_, rfl⟩
        simp only [TrAt]
        exact ⟨p4, p3, _, rfl, sf _ _ (se _ _ upd_same), sf _ _ (se _ _ (sd _ _ upd_same)), hTb.mono sall⟩
      · obtain ⟨o1, o2⟩ := okL_take hok kp
        rw [okL_app]
        simp only [OkL, Tr.Ok]
        exact ⟨o1, ⟨ht, hwd, o2⟩, trivial⟩
      · rw [nodesL_app]
        simp only [nodesL, Tr.nodes]
        have := nodesL_take ts kp
        omega
      · rw [hkp hjm]
        simp
  · rintro σ H1 ⟨y5, y6, y7, y8, mp, ts, xs, rfl, s1, hmp, hT, hok, hnd, hlast⟩
    rw [hm] at hnd hlast
    have hone := hlast rfl
    cases ts with
    | nil => cases hone
    | cons t r =>
      have hr0 : r = [] := List.length_eq_zero_iff.mp (by simpa using hone)
      subst hr0
      simp only [TrsAt] at hT
      obtain ⟨v, r, e, hTv, e2⟩ := hT
      subst e2
      subst e
      simp only [OkL] at hok
      simp only [nodesL] at hnd
      exact ⟨_, rfl, mp, _, 0, v, rfl, rfl, SqL.of hmp, at_zero, k v t H1 s1 hTv hok.1 (by omega)⟩
end
end Wd
namespace Wd
open PySem L2
open TL (tl tl_append ext_tl mk_tl partition_app partition_none len_tl)
mutual
theorem text_len : ∀ (t : Tr), t.Ok → t.text.length ≤ 71 * t.nodes
  | .nd t w ks, h => by
    simp only [Tr.Ok] at h
    obtain ⟨⟨_, h1, _⟩, ⟨h2, _⟩, h3⟩ := h
    have h4 := textL_len ks h3
    have h5 : (wtext w).length ≤ 61 := by
      unfold wtext
      split
      · simp
      · simp
        omega
    simp only [Tr.text, Tr.nodes, List.length_append, List.length_singleton]
    omega
theorem textL_len : ∀ (ts : List Tr), OkL ts → (textL ts).length ≤ 71 * nodesL ts
  | [], _ => by simp [textL]
  | t :: ts, h => by
    simp only [OkL] at h
    have h1 := text_len t h.1
    have h2 := textL_len ts h.2
    simp only [textL, nodesL, List.length_append]
    omega
end
theorem TrsAt.get {H : Hp} : ∀ {ts : List Tr} {vs : List V} {i : Nat} {v : V}, TrsAt H vs ts → vs[i]? = some v → ∃ t, ts[i]? = some t ∧ TrAt H v t
  | [], vs, i, v, h, e => by
    simp only [TrsAt] at h
    rw [h] at e
    simp at e
  | t :: ts, vs, 0, v, h, e => by
    simp only [TrsAt] at h
    obtain ⟨v', r, e', h1, h2⟩ := h
    rw [e'] at e
    cases e
    exact ⟨t, rfl, h1⟩
  | t :: ts, vs, i + 1, v, h, e => by
    simp only [TrsAt] at h
    obtain ⟨v', r, e', h1, h2⟩ := h
    rw [e'] at e
    exact TrsAt.get (i := i) h2 e
theorem okL_get : ∀ {ts : List Tr} {i : Nat} {t : Tr}, OkL ts → ts[i]? = some t → t.Ok
  | t :: ts, 0, t', h, e => by
    simp only [OkL] at h
    cases e
    exact h.1
  | t :: ts, i + 1, t', h, e => by
    simp only [OkL] at h
    exact okL_get (i := i) h.2 e
theorem nodesL_get : ∀ {ts : List Tr} {i : Nat} {t : Tr}, ts[i]? = some t → t.nodes ≤ nodesL ts
  | t :: ts, 0, t', e => by
    cases e
    simp only [nodesL]
    omega
  | t :: ts, i + 1, t', e => by
    have := nodesL_get (ts := ts) (i := i) e
    simp only [nodesL]
    omega
theorem stateL_take {M : Mach} {s : Nat} {ks : List Tr} {i : Nat} {t : Tr} (e : ks[i]? = some t) : stateL M s (ks.take (i + 1)) = M.st (stateL M s (ks.take i)) (t.state M) := by
  rw [List.take_add_one, e]
  show stateL M s (ks.take i ++ [t]) = _
  rw [stateL_app]
  simp only [stateL]
theorem stateL_lt {M : Mach} (o : M.Ok) {s : Nat} (hs : s < M.n) (ks : List Tr) : stateL M s ks < M.n := by
  induction ks generalizing s with
  | nil => simpa only [stateL] using hs
  | cons k r ih =>
    simp only [stateL]
    exact ih (o.st_lt _ _)
theorem s0_lt {M : Mach} (o : M.Ok) (t w : List Nat) : s0 M t w < M.n := by
  unfold s0
  cases e : state0 M (lab t w) with
  | none => exact o.n1
  | some s => exact (o.sl _ _ (state0_some o e)).2.2
theorem state_lt {M : Mach} (o : M.Ok) (t : Tr) : t.state M < M.n := by
  cases t with
  | nd t w ks =>
    simp only [Tr.state]
    exact stateL_lt o (s0_lt o t w) ks
/-- the starts as a dict -/
def DictAt (H : Hp) (d : Addr) (M : Mach) : Prop := ∃ kvs : List (Key × V), H d = some (.dK kvs) ∧ ∀ l : List Nat, valV kvs (Sum.inr (S l)) = (state0 M l).map nV
section
variable {P : Program} {w : World} {K : PySem.W.Frag} {mg : Str → Option Value} {base : Heap}
/-! ### _law_state -/
def spState (n : Nat) : Sp := fun vs H Q _ => ∃ (d aT : Addr) (v : V) (M : Mach) (t : Tr), vs = [.ref d, .ref aT, v] ∧ DictAt H d M ∧ RowsAt H aT M.rows ∧ M.Ok ∧ t.Ok ∧ TrAt H v t ∧ t.nodes ≤ n ∧ Q (nV (t.state M)) H
abbrev nState : List Str := ["_law_starts", "_law_steps", "_law_tree_here", "_law_label_here", "_law_state_here", "_law_kid"]
theorem scState : FnScope nState ["_law_starts", "_law_steps", "_law_tree_here"] (defScope sState) := ⟨rfl, rfl, rfl, by decide +kernel, rfl, by decide +kernel, by decide +kernel⟩
theorem ok_state1 {f : Addr} {fd : FuncData} {n : Nat} (F : Fun K "_law_state" "_law_state" sState f fd) (G : FnOk P w K mg base CX0 n f fd ["_law_starts", "_law_steps", "_law_tree_here"] (spState n)) (bF : Binds K fd ["_law_starts", "_law_steps", "_law_tree_here"] []) (mF : mg "_law_state" = some (.ref f)) :
    FnOk P w K mg base CX0 (n + 1) f fd ["_law_starts", "_law_steps", "_law_tree_here"] (spState (n + 1)) := by
  refine F.ok scState (fun vs H Q E h => ?_) (fun cdv A0 outer s H vs Q E hr h => ?_)
  · obtain ⟨d, aT, v, M, t, rfl, _⟩ := h
    rfl
  obtain ⟨d, aT, v, M, t, rfl, hD, hR, o, tok, hT, hnd, k⟩ := h
  refine ⟨_, pss_cons (ps_set (i := 3) scState.nd rfl (.inl rfl) (pe_ix ix_tup (pv 2) pe_int (fun _ _ => rfl)))
    (Evl.pss_cut (ps_if (pt_cmpR op_ne (pe_ix ix_tup (pv 2) pe_int (fun _ _ => rfl)) pe_str (nomark _)) (pss_one (ps_set (i := 3) scState.nd rfl (.inl rfl) (pe_op op_add_str (pv 3) pe_str))) pss_nil)
    (pss_cons (ps_set (i := 4) scState.nd rfl (.inl rfl) (pe_dget2 (hu_of hr) (pv 0) (pv 3) pe_int ⟨rfl, rfl, rfl, rfl⟩))
    (pss_cons (ps_for PassesOwn.never rfl (pi_tup (pe_ix ix_tup (pv 2) pe_int (fun _ _ => rfl))) (pg_name (i := 5) scState.nd rfl (.inl rfl))
      (pss_one (ps_set (i := 4) scState.nd rfl (.inl rfl) (pe_ix ix_list (pe_ix ix_list (pv 1) (pv 4) (fun _ _ => rfl)) (pe_call G hr rfl mF F.kp bF .nil pass0 (pa_cons (pv 0) (pa_cons (pv 1) (pa_cons (pv 5) pa_nil)))) (fun _ _ => rfl)))))
    (pss_one (ps_ret (pv 4)))))), ?_⟩
  cases t with
  | nd tg wd ks =>
  simp only [Tr.Ok] at tok
  obtain ⟨⟨_, tg8, _⟩, ⟨wd60, _⟩, kok⟩ := tok
  simp only [TrAt] at hT
  obtain ⟨ta, tb, vs, rfl, h1, h2, hTs⟩ := hT
  simp only [Tr.nodes] at hnd
  simp only [Tr.state] at k
  obtain ⟨kvs, hd1, hd2⟩ := hD
  have hzt : (S tg).length + (S [58]).length ≤ sizeLine := by rw [S_len, S_len]; exact sz _ (by simp; omega)
  refine ⟨_, rfl, ta, _, 0, _, rfl, rfl, SqT.of h1, rfl, ?_⟩
  refine ⟨fun σ' H' => σ' = [some (.ref d), some (.ref aT), some (.ref ta), some (.str (S (lab tg wd))), none, none] ∧ H' = H, ?_, ?_⟩
  · refine ⟨_, rfl, ta, _, 1, _, rfl, rfl, SqT.of h1, rfl, rfl, _, rfl, ?_⟩
    cases hw : (wd == []) with
    | true =>
      refine ite_f (by rw [isNil, hw]; rfl) ?_
      have e : wd = [] := by simpa using hw
      refine ⟨?_, rfl⟩
      unfold lab
      rw [if_pos e]
      rfl
    | false =>
      refine ite_t (by rw [isNil, hw]; rfl) ?_
      have e : wd ≠ [] := by simpa using hw
      refine ⟨_, rfl, S tg, S [58], rfl, congrArg V.str colon58, hzt, ?_, rfl⟩
      rw [S_app]
      unfold lab
      rw [if_neg e]
      rfl
  rintro σ' H' ⟨rfl, rfl⟩
  have hg := DGet.k (k := (Sum.inr (S (lab tg wd)) : Key)) hd1
  rw [hd2] at hg
  refine ⟨_, rfl, d, rfl, .inl ⟨kvs, .of hd1⟩, _, rfl, _, hg, ?_⟩
  have e0 : ((state0 M (lab tg wd)).map nV).getD (.int 0) = nV (s0 M tg wd) := by
    unfold s0
    cases state0 M (lab tg wd) <;> rfl
  rw [e0]
  refine ⟨_, rfl, ta, _, 2, _, rfl, rfl, SqT.of h1, rfl, tb, rfl, ⟨_, SqT.of h2⟩, for_tup (K := K) (a := tb) (xs := vs)
    (fun i σ H2 => ∃ y5, σ = [some (.ref d), some (.ref aT), some (.ref ta), some (.str (S (lab tg wd))), some (nV (stateL M (s0 M tg wd) (ks.take i))), y5] ∧ H2 = H') ⟨none, by rw [List.take_zero]; simp only [stateL]; rfl, rfl⟩ (fun i σ H2 _ ⟨_, _, e⟩ => by rw [e]; exact SqT.of h2) ?_ ?_⟩
  · rintro i x σ H2 hi ⟨y5, rfl, rfl⟩
    obtain ⟨kt, hk1, hk2⟩ := hTs.get hi
    have hlt := stateL_lt o (s0_lt o tg wd) (ks.take i)
    have hklt := state_lt o kt
    obtain ⟨row, hr1, hr2, hr3⟩ := o.st_get hlt hklt
    obtain ⟨rs, b, hb1, hb2, hb3⟩ := hR.get hr1
    have hkn := nodesL_get hk1
    refine ⟨_, rfl, _, rfl, aT, rs, _, _, rfl, rfl, SqL.of hb1, hb2, _, rfl, _, rfl, _, rfl, d, aT, x, M, kt, rfl, ⟨kvs, hd1, hd2⟩, hR, o, okL_get kok hk1, hk2, by omega, b, _, _, _, rfl, rfl, SqL.of hb3, atI_nat (nat_at hr3), ?_⟩
    rw [stateL_take hk1]
    exact ⟨_, rfl, rfl⟩
  · rintro σ H2 ⟨y5, rfl, rfl⟩
    rw [hTs.len, List.take_length]
    exact ⟨_, rfl, k⟩
theorem ok_state {f : Addr} {fd : FuncData} (F : Fun K "_law_state" "_law_state" sState f fd) (bF : Binds K fd ["_law_starts", "_law_steps", "_law_tree_here"] []) (mF : mg "_law_state" = some (.ref f)) : ∀ n : Nat, FnOk P w K mg base CX0 n f fd ["_law_starts", "_law_steps", "_law_tree_here"] (spState n)
  | 0 => by
    have no : ∀ vs H Q E, ¬ spState 0 vs H Q E := fun vs H Q E h => by
      obtain ⟨_, _, _, _, t, _, _, _, _, _, _, hn, _⟩ := h
      have := nodes_pos t
      omega
    exact ⟨fun vs H Q E h => absurd h (no vs H Q E), fun A outer s H args us vs Q E _ _ _ _ h => absurd h (no vs H Q E)⟩
  | n + 1 => ok_state1 F (ok_state F bF mF n) bF mF
/-! ### _law_text -/
def spText (n : Nat) : Sp := fun vs H Q _ => ∃ (v : V) (t : Tr), vs = [v] ∧ t.Ok ∧ TrAt H v t ∧ t.nodes ≤ n ∧ t.nodes ≤ 100 ∧ ∀ H', Same H H' → Q (.str (S t.text)) H'
abbrev nText : List Str := ["_law_tree_here", "_law_word_here", "_law_kid"]
theorem scText : FnScope nText ["_law_tree_here"] (defScope sText) := ⟨rfl, rfl, rfl, by decide +kernel, rfl, by decide +kernel, by decide +kernel⟩
theorem textL_flat (ks : List Tr) : (ks.map Tr.text).flatten = textL ks := by
  induction ks with
  | nil => simp [textL]
  | cons k r ih => rw [List.map_cons, List.flatten_cons, ih]; simp only [textL]
theorem sum_len (ks : List Tr) : ((ks.map fun k => S k.text).map (·.length)).sum = (textL ks).length := by
  induction ks with
  | nil => simp [textL]
  | cons k r ih =>
    rw [List.map_cons, List.map_cons, List.sum_cons, ih, S_len]
    simp only [textL, List.length_append]
theorem ok_text1 {f : Addr} {fd : FuncData} {n : Nat} (F : Fun K "_law_text" "_law_text" sText f fd) (G : FnOk P w K mg base CX0 n f fd ["_law_tree_here"] (spText n)) (bF : Binds K fd ["_law_tree_here"] []) (mF : mg "_law_text" = some (.ref f)) :
    FnOk P w K mg base CX0 (n + 1) f fd ["_law_tree_here"] (spText (n + 1)) := by
  refine F.ok scText (fun vs H Q E h => ?_) (fun cdv A0 outer s H vs Q E hr h => ?_)
  · obtain ⟨v, t, rfl, _⟩ := h
    rfl
  obtain ⟨v, t, rfl, tok, hT, hnd, hn100, k⟩ := h
  refine ⟨_, pss_cons (ps_set (i := 1) scText.nd rfl (.inl rfl) pe_str)
    (Evl.pss_cut (ps_if (pt_cmpR op_ne (pe_ix ix_tup (pv 0) pe_int (fun _ _ => rfl)) pe_str (nomark _)) (pss_one (ps_set (i := 1) scText.nd rfl (.inl rfl) (pe_op op_add_str pe_str (pe_ix ix_tup (pv 0) pe_int (fun _ _ => rfl))))) pss_nil)
    (pss_one (ps_ret (pe_op op_add_str (pe_op op_add_str (pe_op op_add_str (pe_op op_add_str (pe_ix ix_tup (pv 0) pe_int (fun _ _ => rfl)) (pv 1)) pe_str)
      (pe_join pe_str (pe_lc (own := [("_law_kid", 2)]) (g := gName 2) (tt := tYes) (te := tCall (spText n) [] E0 (tCons (tVar 2) tNil)) rfl scText.nd (pi_tup (pe_ix ix_tup (pv 0) pe_int (fun _ _ => rfl))) (blkOk_by (N := nText) (sc := defScope sText) (by decide +kernel))
        (fun _ _ _ _ _ => pg_name (i := 2) scText.nd rfl (Or.inl rfl)) (fun _ _ _ _ _ => pts_nil) (fun _ _ _ _ _ => pe_call G hr rfl mF F.kp bF .nil pass0 (pa_cons (pv 2) pa_nil))))) pe_str)))), ?_⟩
  have tlen := text_len t tok
  cases t with
  | nd tg wd ks =>
  simp only [Tr.Ok] at tok
  obtain ⟨⟨_, tg8, _⟩, ⟨wd60, _⟩, kok⟩ := tok
  simp only [TrAt] at hT
  obtain ⟨ta, tb, vs, rfl, h1, h2, hTs⟩ := hT
  simp only [Tr.nodes] at hnd hn100 tlen
  simp only [Tr.text] at k tlen
  have klen := textL_len ks kok
  have hzw : (S [58]).length + (S wd).length ≤ sizeLine := by rw [S_len, S_len]; exact sz _ (by simp; omega)
  refine ⟨fun σ' H' => σ' = [some (.ref ta), some (.str (S (wtext wd))), none] ∧ H' = H, ?_, ?_⟩
  · refine ⟨_, rfl, ta, _, 1, _, rfl, rfl, SqT.of h1, rfl, rfl, _, rfl, ?_⟩
    cases hw : (wd == []) with
    | true =>
      refine ite_f (by rw [isNil, hw]; rfl) ?_
      have e : wd = [] := by simpa using hw
      refine ⟨?_, rfl⟩
      unfold wtext
      rw [if_pos e, ← str_nil]
      rfl
    | false =>
      refine ite_t (by rw [isNil, hw]; rfl) ?_
      have e : wd ≠ [] := by simpa using hw
      refine ⟨_, rfl, ta, _, 1, _, rfl, rfl, SqT.of h1, rfl, S [58], S wd, congrArg V.str colon58, rfl, hzw, ?_, rfl⟩
      rw [S_app]
      unfold wtext
      rw [if_neg e]
      rfl
  rintro σ' H' ⟨rfl, rfl⟩
  have hwt : (wtext wd).length ≤ 61 := by
    unfold wtext
    split
    · simp
    · simp; omega
  refine ⟨_, rfl, ta, _, 0, _, rfl, rfl, SqT.of h1, rfl, _, rfl, S tg, S (wtext wd), rfl, rfl, (by rw [S_len, S_len]; exact sz _ (by omega)), ?_⟩
  rw [S_app]
  refine ⟨S (tg ++ wtext wd), S [40], rfl, congrArg V.str str40, (by rw [S_len, S_len]; exact sz _ (by simp; omega)), ?_⟩
  rw [S_app]
  refine ⟨⟨_, rfl⟩, _, rfl, ta, _, 2, _, rfl, rfl, SqT.of h1, rfl, tb, rfl, ⟨_, SqT.of h2⟩, fun D hD => ?_⟩
  refine lc_tup (K := K) (a := tb) (xs := vs) (fun j H2 => Same H' H2 ∧ H2 D = some (.lst ((ks.take j).map fun k => V.str (S k.text)))) ⟨same_new hD _, upd_same⟩ (fun j H2 _ ⟨s', _⟩ => SqT.of (s' _ _ h2)) (fun j x H2 hj ⟨s', hD'⟩ => ?_) (fun H2 ⟨s', hD'⟩ => ?_)
  · obtain ⟨kt, hk1, hk2⟩ := hTs.get hj
    have hkn := nodesL_get hk1
    have hjl := (List.getElem?_eq_some_iff.mp hk1).1
    have hkl := nodesL_len ks
    refine ⟨wipe_own _ 2 _, _, rfl, x, kt, rfl, okL_get kok hk1, hk2.mono s', by omega, by omega, fun H3 s3 => ⟨_, s3 _ _ hD', by rw [List.length_map, List.length_take]; exact szl _ (by omega), same_upd (s'.trans s3) hD _, ?_⟩⟩
    rw [upd_same, List.take_add_one, hk1]
    simp
  · rw [hTs.len, List.take_length] at hD'
    have hkl := nodesL_len ks
    refine ⟨S [], D, ks.map fun k => S k.text, congrArg V.str str_nil, rfl, .inl (SqL.of (by rw [hD', List.map_map]; rfl)), ?_, ?_⟩
    · rw [sum_len, S_len]
      simp
      omega
    · have ej : Txt.join (S []) (ks.map fun k => S k.text) = S (textL ks) := by
        have := join_nil (ks.map Tr.text)
        rw [List.map_map, textL_flat] at this
        exact this
      rw [ej]
      refine ⟨S (tg ++ wtext wd ++ [40]), S (textL ks), rfl, rfl, (by rw [S_len, S_len]; exact sz _ (by simp; omega)), ?_⟩
      rw [S_app]
      refine ⟨S (tg ++ wtext wd ++ [40] ++ textL ks), S [41], rfl, congrArg V.str str41, (by rw [S_len, S_len]; exact sz _ (by simp; omega)), ?_⟩
      rw [S_app]
      exact k H2 s'
theorem ok_text {f : Addr} {fd : FuncData} (F : Fun K "_law_text" "_law_text" sText f fd) (bF : Binds K fd ["_law_tree_here"] []) (mF : mg "_law_text" = some (.ref f)) : ∀ n : Nat, FnOk P w K mg base CX0 n f fd ["_law_tree_here"] (spText n)
  | 0 => by
    have no : ∀ vs H Q E, ¬ spText 0 vs H Q E := fun vs H Q E h => by
      obtain ⟨_, t, _, _, _, hn, _⟩ := h
      have := nodes_pos t
      omega
    exact ⟨fun vs H Q E h => absurd h (no vs H Q E), fun A outer s H args us vs Q E _ _ _ _ h => absurd h (no vs H Q E)⟩
  | n + 1 => ok_text1 F (ok_text F bF mF n) bF mF
end
end Wd
namespace Wd
open PySem L2
open TL (tl tl_append ext_tl mk_tl partition_app partition_none len_tl)
theorem its_get {l : List Nat} {i : Nat} {c : Nat} : (S l).cps[i]? = some c ↔ l[i]? = some c := by
  show l.toArray[i]? = some c ↔ _
  simp
/-- a comprehension over the signs of a text -/
theorem lc_str {l : List Nat} {g : TG} {tt : TT} {te : TE} {vs : List Nat} {σ : L2.St} {H1 : Hp} {D : Addr} {Qd : Hp → Prop} (Pv : Nat → Hp → Prop) (h0 : Pv 0 (upd H1 D (.lst [])))
    (hs : ∀ i c H, l[i]? = some c → Pv i H → g (.str (S [c])) (wipe σ vs) H fun σ2 H2 => wipe σ2 vs = wipe σ vs ∧ tt σ2 H2 fun b H3 =>
      if b = true then te σ2 H3 fun y H4 => ∃ acc, H4 D = some (.lst acc) ∧ acc.length < sizeLine ∧ Pv (i + 1) (upd H4 D (.lst (acc ++ [y]))) else Pv (i + 1) H3) (hd : ∀ H, Pv l.length H → Qd H) :
    ∃ W : Nat → Nat → Hp → Prop, (∃ m, W 0 m (upd H1 D (.lst []))) ∧ ∀ i m H, W i m H →
      ((Its (S l)).stop i H ∧ Qd H) ∨ ((Its (S l)).go i H ∧ ∃ Nx : Hp → Prop, (∀ H', Nx H' → ∃ m', m' < m ∧ W (i + 1) m' H') ∧ ∀ x H', (Its (S l)).yld i H x H' → g x (wipe σ vs) H' fun σ2 H2 => wipe σ2 vs = wipe σ vs ∧ tt σ2 H2 fun b H3 =>
        if b = true then te σ2 H3 fun y H4 => ∃ acc, H4 D = some (.lst acc) ∧ acc.length < sizeLine ∧ Nx (upd H4 D (.lst (acc ++ [y]))) else Nx H3) := by
  have hsz : (S l).cps.size = l.length := List.size_toArray
  refine ⟨fun i m H => m = l.length - i ∧ i ≤ l.length ∧ Pv i H, ⟨l.length, by simp, Nat.zero_le _, h0⟩, ?_⟩
  rintro i m H ⟨rfl, hi, p⟩
  by_cases hlt : i < l.length
  · refine .inr ⟨(by show i < (S l).cps.size; omega), Pv (i + 1), fun H' p' => ⟨l.length - (i + 1), by omega, rfl, hlt, p'⟩, fun x H' y => ?_⟩
    obtain ⟨e, c, hc, rfl⟩ := y
    subst e
    exact hs i c _ (its_get.mp hc) p
  · have e : i = l.length := by omega
    subst e
    exact .inl ⟨(by show (S l).cps.size ≤ l.length; omega), hd H p⟩
/-- a loop over the signs of a text -/
theorem for_str {l : List Nat} {g : TG} {tb : TS} {D : Ends} {σ : L2.St} {H : Hp} (Pv : Nat → L2.St → Hp → Prop) (h0 : Pv 0 σ H)
    (hs : ∀ i c σ H, l[i]? = some c → Pv i σ H → g (.str (S [c])) σ H fun σ2 H2 => tb { D with nx := Pv (i + 1), ct := Pv (i + 1), bk := D.nx } σ2 H2) (hd : ∀ σ H, Pv l.length σ H → D.nx σ H) :
    ∃ W : Nat → Nat → L2.St → Hp → Prop, (∃ m, W 0 m σ H) ∧ ∀ i m σ H, W i m σ H → ((Its (S l)).stop i H ∧ D.nx σ H) ∨ ((Its (S l)).go i H ∧ ∃ N : L2.St → Hp → Prop, (∀ σ' H', N σ' H' → ∃ m', m' < m ∧ W (i + 1) m' σ' H') ∧
      ∀ x H', (Its (S l)).yld i H x H' → g x σ H' fun σ2 H2 => tb { D with nx := N, ct := N, bk := D.nx } σ2 H2) := by
  have hsz : (S l).cps.size = l.length := List.size_toArray
  refine ⟨fun i m σ H => m = l.length - i ∧ i ≤ l.length ∧ Pv i σ H, ⟨l.length, by simp, Nat.zero_le _, h0⟩, ?_⟩
  rintro i m σ H ⟨rfl, hi, p⟩
  by_cases hlt : i < l.length
  · refine .inr ⟨(by show i < (S l).cps.size; omega), Pv (i + 1), fun σ' H' p' => ⟨l.length - (i + 1), by omega, rfl, hlt, p'⟩, fun x H' y => ?_⟩
    obtain ⟨e, c, hc, rfl⟩ := y
    subst e
    exact hs i c _ _ (its_get.mp hc) p
  · have e : i = l.length := by omega
    subst e
    exact .inl ⟨(by show (S l).cps.size ≤ l.length; omega), hd σ H p⟩
theorem bootAll : bootBuiltins "all" = some (.builtin "all") := by decide +kernel
theorem dig_str : ("0123456789" : Str) = S digs := ext_tl (by decide +kernel)
theorem part_txt (h : List Nat) : Txt.partition (S h) ":" = (S (part h).1, S (part h).2.1, S (part h).2.2) := by
  rw [colon58]
  rcases part_cases h with ⟨h1, e⟩ | ⟨a, b, rfl, h1, e⟩
  · rw [e]
    exact partition_none (y := S [58]) (s := 58) (S := []) rfl h1
  · rw [e]
    have := partition_app (y := S [58]) (s := 58) (S := []) rfl (a := S a) (b := S b) h1
    rw [S_app, S_app] at this
    rw [show a ++ 58 :: b = a ++ [58] ++ b by simp]
    exact this
theorem part_len (h : List Nat) : (part h).1.length ≤ h.length ∧ (part h).2.2.length ≤ h.length := by
  rcases part_cases h with ⟨_, e⟩ | ⟨a, b, rfl, _, e⟩
  · rw [e]; simp
  · rw [e]; simp; omega
theorem ws_dec {c : Nat} : decide (c ∈ (S (smalls ++ digs)).cps.toList) = decide (c ∈ wsigns) := by
  have : wsigns = smalls ++ digs := by decide +kernel
  rw [this]
  rfl
section
variable {P : Program} {w : World} {K : PySem.W.Frag} {mg : Str → Option Value} {base : Heap}
/-! ### _law_is_head -/
def spIsHead : Sp := fun vs H Q _ => ∃ h : List Nat, vs = [.str (S h)] ∧ h.length ≤ 50000 ∧ ∀ H', Same H H' → Q (.bl (isHead h)) H'
abbrev nIsHead : List Str := ["_law_head", "_law_parts", "_law_small", "_law_sign"]
theorem scIsHead : FnScope nIsHead ["_law_head"] (defScope sIsHead) := ⟨rfl, rfl, rfl, by decide +kernel, rfl, by decide +kernel, by decide +kernel⟩
theorem all_bls (s l : List Nat) : (l.map fun c => decide (c ∈ s)).all id = allIn s l := by
  unfold allIn
  rw [List.all_map]
  rfl
theorem ok_isHead {f : Addr} {fd : FuncData} (F : Fun K "_law_is_head" "_law_is_head" sIsHead f fd) (ml : mg "len" = none) (ma : mg "all" = none) : FnOk P w K mg base CX0 1 f fd ["_law_head"] spIsHead := by
  refine F.ok scIsHead (fun vs H Q E h => ?_) (fun cdv A0 outer s H vs Q E hr h => ?_)
  · obtain ⟨h, rfl, _⟩ := h
    rfl
  obtain ⟨h, rfl, hl, k⟩ := h
  refine ⟨_, pss_cons (ps_set (i := 1) scIsHead.nd rfl (.inl rfl) (pe_partition (pv 0) pe_str))
    (pss_cons (ps_set (i := 2) scIsHead.nd rfl (.inr rfl) pe_str)
    (pss_cons (ps_if (PW.pt (pw_or (pt_cmpR op_lt (pe_callB call_len_str rfl ml boot_len (pa_cons (pe_ix ix_tup (pv 1) pe_int (fun _ _ => rfl)) pa_nil)) pe_int (nomark _))
        (pw_or (pt_cmpR op_gt (pe_callB call_len_str rfl ml boot_len (pa_cons (pe_ix ix_tup (pv 1) pe_int (fun _ _ => rfl)) pa_nil)) pe_int (nomark _))
        (pw_or1 (pt_not (pt_val (pe_callB (cr_all rfl) rfl ma bootAll (pa_cons (pe_lc (own := [("_law_sign", 3)]) (g := gName 3) (tt := tYes) (te := tOp rInS (tVar 3) (tVar 2)) rfl scIsHead.nd (pi_str (pe_ix ix_tup (pv 1) pe_int (fun _ _ => rfl))) (blkOk_by (N := nIsHead) (sc := defScope sIsHead) (by decide +kernel))
          (fun _ _ _ _ _ => pg_name (i := 3) scIsHead.nd rfl (Or.inl rfl)) (fun _ _ _ _ _ => pts_nil) (fun _ _ _ _ _ => pe_cmpR op_inS (pv 3) (pv 2) rfl)) pa_nil))))))))
      (pss_one (ps_ret pe_bl)) pss_nil)
    (pss_cons (ps_if (pt_cmpR op_eq (pe_ix ix_tup (pv 1) pe_int (fun _ _ => rfl)) pe_str (nomark _)) (pss_one (ps_ret pe_bl)) pss_nil)
    (pss_one (ps_ret (pe_and (pe_chain op_le op_le pe_int (pe_callB call_len_str rfl ml boot_len (pa_cons (pe_ix ix_tup (pv 1) pe_int (fun _ _ => rfl)) pa_nil)) pe_int)
      (pe_one (pe_callB (cr_all rfl) rfl ma bootAll (pa_cons (pe_lc (own := [("_law_sign", 3)]) (g := gName 3) (tt := tYes) (te := tOp rInS (tVar 3) (tOp (fun x y H Q => ∃ i j, x = .str i ∧ y = .str j ∧ i.length + j.length ≤ sizeLine ∧ Q (.str (i ++ j)) H) (tVar 2) (tC (.str "0123456789")))) rfl scIsHead.nd (pi_str (pe_ix ix_tup (pv 1) pe_int (fun _ _ => rfl))) (blkOk_by (N := nIsHead) (sc := defScope sIsHead) (by decide +kernel))
          (fun _ _ _ _ _ => pg_name (i := 3) scIsHead.nd rfl (Or.inl rfl)) (fun _ _ _ _ _ => pts_nil) (fun _ _ _ _ _ => pe_cmpR op_inS (pv 3) (pe_op op_add_str (pv 2) pe_str) rfl)) pa_nil))))))))), ?_⟩
  obtain ⟨pl1, pl2⟩ := part_len h
  refine ⟨_, rfl, ⟨_, rfl⟩, S h, ":", rfl, rfl, by decide +kernel, (by rw [S_len]; exact sz _ (by omega)), fun p hp => ?_⟩
  rw [part_txt]
  have s1 := same_new hp (.tup [.str (S (part h).1), .str (S (part h).2.1), .str (S (part h).2.2)])
  have hp1 : upd H p (.tup [.str (S (part h).1), .str (S (part h).2.1), .str (S (part h).2.2)]) p = some (.tup [.str (S (part h).1), .str (S (part h).2.1), .str (S (part h).2.2)]) := upd_same
  generalize upd H p (.tup [.str (S (part h).1), .str (S (part h).2.1), .str (S (part h).2.2)]) = H1 at s1 hp1
  unfold isHead at k
  generalize part h = q at pl1 pl2 hp1 k
  obtain ⟨q1, q2, q3⟩ := q
  have pl1 : q1.length ≤ h.length := pl1
  have pl2 : q3.length ≤ h.length := pl2
  have hp1 : H1 p = some (.tup [.str (S q1), .str (S q2), .str (S q3)]) := hp1
  have z1 : (S q1).length ≤ sizeLine := by rw [S_len]; exact sz _ (by omega)
  have z3 : (S q3).length ≤ sizeLine := by rw [S_len]; exact sz _ (by omega)
  refine ⟨_, rfl, p, _, 0, _, rfl, rfl, SqT.of hp1, rfl, _, rfl, z1, _, 1, rfl, rfl, _, rfl, ?_⟩
  rw [S_len]
  by_cases c1 : q1.length < 1
  · refine ite_t (decide_eq_true (by omega)) ?_
    have := k H1 s1
    rw [show (decide (q1.length < 1) || decide (8 < q1.length) || !allIn smalls q1) = true by rw [decide_eq_true c1]; rfl, if_pos rfl] at this
    exact this
  refine ite_f (decide_eq_false (by omega)) ?_
  refine ⟨_, rfl, p, _, 0, _, rfl, rfl, SqT.of hp1, rfl, _, rfl, z1, _, 8, rfl, rfl, _, rfl, ?_⟩
  rw [S_len]
  by_cases c2 : 8 < q1.length
  · refine ite_t (decide_eq_true (by omega)) ?_
    have := k H1 s1
    rw [show (decide (q1.length < 1) || decide (8 < q1.length) || !allIn smalls q1) = true by rw [decide_eq_true c2]; simp, if_pos rfl] at this
    exact this
  refine ite_f (decide_eq_false (by omega)) ?_
  refine ⟨_, rfl, p, _, 0, _, rfl, rfl, SqT.of hp1, rfl, S q1, rfl, fun D hD => ?_⟩
  refine lc_str (Pv := fun j H2 => H2 = upd H1 D (.lst (((q1.take j).map fun c => decide (c ∈ smalls)).map V.bl))) rfl ?_ ?_
  · rintro j c H2 hj rfl
    have hjl := (List.getElem?_eq_some_iff.mp hj).1
    refine ⟨wipe_own _ 3 _, _, rfl, _, rfl, c, _, rfl, rfl, _, upd_same, by rw [List.length_map, List.length_map, List.length_take]; exact szl _ (by omega), ?_⟩
    show upd _ D _ = _
    rw [upd_upd, List.take_add_one, hj, small_cps]
    simp
  rintro H2 rfl
  rw [List.take_length]
  have s2 := s1.trans (same_new hD (.lst ((q1.map fun c => decide (c ∈ smalls)).map V.bl)))
  have hp2 := (same_new hD (.lst ((q1.map fun c => decide (c ∈ smalls)).map V.bl))) _ _ hp1
  refine ⟨D, _, rfl, SqL.of upd_same, _, rfl, ?_⟩
  generalize upd H1 D (.lst ((q1.map fun c => decide (c ∈ smalls)).map V.bl)) = H2 at s2 hp2
  rw [all_bls]
  have k0 := k
  have k := k H2
  rw [decide_eq_false c1, decide_eq_false c2, Bool.false_or, Bool.false_or] at k
  cases c3 : allIn smalls q1 with
  | false =>
    refine ite_t rfl ?_
    rw [c3] at k
    exact k s2
  | true =>
  refine ite_f rfl ?_
  rw [c3, Bool.not_true, if_neg Bool.false_ne_true] at k
  refine ⟨_, rfl, p, _, 1, _, rfl, rfl, SqT.of hp2, rfl, rfl, _, rfl, ?_⟩
  cases c4 : (q2 == []) with
  | true =>
    refine ite_t ((isNil _).trans c4) ?_
    have e : q2 = [] := by simpa using c4
    rw [if_pos e] at k
    exact k s2
  | false =>
  refine ite_f ((isNil _).trans c4) ?_
  have e : q2 ≠ [] := by simpa using c4
  rw [if_neg e] at k
  refine ⟨_, rfl, p, _, 2, _, rfl, rfl, SqT.of hp2, rfl, _, rfl, z3, 1, _, rfl, rfl, _, rfl, ?_⟩
  rw [S_len]
  by_cases c5 : 1 ≤ q3.length
  · refine ite_t (decide_eq_true (by omega)) ?_
    rw [decide_eq_true c5, Bool.true_and] at k
    refine ⟨_, 60, rfl, rfl, _, rfl, ?_⟩
    by_cases c6 : q3.length ≤ 60
    · refine ite_t (decide_eq_true (by omega)) ?_
      have k' : ∀ H', Same H H' → Q (.bl (allIn wsigns q3)) H' := fun H' s' => by
        have := k0 H' s'
        rw [decide_eq_false c1, decide_eq_false c2, Bool.false_or, Bool.false_or, c3, Bool.not_true, if_neg Bool.false_ne_true, if_neg e, decide_eq_true c5, Bool.true_and, decide_eq_true c6, Bool.true_and] at this
        exact this
      refine ⟨_, rfl, p, _, 2, _, rfl, rfl, SqT.of hp2, rfl, S q3, rfl, fun D2 hD2 => ?_⟩
      refine lc_str (Pv := fun j H3 => H3 = upd H2 D2 (.lst (((q3.take j).map fun c => decide (c ∈ wsigns)).map V.bl))) rfl ?_ ?_
      · rintro j c H3 hj rfl
        have hjl := (List.getElem?_eq_some_iff.mp hj).1
        refine ⟨wipe_own _ 3 _, _, rfl, _, rfl, S smalls, S digs, congrArg V.str small_str, congrArg V.str dig_str, (by rw [S_len, S_len]; exact sz _ (by decide)), c, _, rfl, rfl, _, upd_same, by rw [List.length_map, List.length_map, List.length_take]; exact szl _ (by omega), ?_⟩
        show upd _ D2 _ = _
        rw [upd_upd, List.take_add_one, hj, S_app, show decide (c ∈ (S (smalls ++ digs)).cps.toList) = decide (c ∈ wsigns) from ws_dec]
        simp
      · rintro H3 rfl
        rw [List.take_length]
        refine ⟨D2, _, rfl, SqL.of upd_same, ?_⟩
        rw [all_bls]
        exact k' _ (s2.trans (same_new hD2 _))
    · refine ite_f (decide_eq_false (by omega)) ?_
      rw [decide_eq_false c6, Bool.false_and] at k
      exact k s2
  · refine ite_f (decide_eq_false (by omega)) ?_
    rw [decide_eq_false c5, Bool.false_and, Bool.false_and] at k
    exact ⟨_, rfl, k s2⟩
end
end Wd
namespace Wd
open PySem L2
open TL (tl tl_append ext_tl mk_tl partition_app partition_none len_tl)
/-! ### the parser, turn by turn -/
theorem prun_take {l : List Nat} {z : PS} (h : prun pinit l = some z) {i : Nat} : ∃ s, prun pinit (l.take i) = some s := by
  have e : l = l.take i ++ l.drop i := (List.take_append_drop i l).symm
  rw [e, prun_app] at h
  cases hp : prun pinit (l.take i) with
  | none => rw [hp] at h; cases h
  | some s => exact ⟨s, rfl⟩
theorem prun_next {l : List Nat} {z s : PS} {i c : Nat} (h : prun pinit l = some z) (hc : l[i]? = some c) (hs : prun pinit (l.take i) = some s) : ∃ s', pstep1 s c = some s' ∧ pbad s' = false ∧ prun pinit (l.take (i + 1)) = some s' := by
  obtain ⟨s', h'⟩ := prun_take (i := i + 1) h
  have h2 := h'
  rw [List.take_add_one, hc] at h2
  show ∃ s', _ ∧ _ ∧ _
  have h2 : prun pinit (l.take i ++ [c]) = some s' := h2
  rw [prun_app, hs] at h2
  have h2 : (pstep s c).bind (fun s' => some s') = some s' := h2
  have h2 : pstep s c = some s' := by
    cases e : pstep s c with
    | none => rw [e] at h2; cases h2
    | some q => rw [e] at h2; exact h2
  unfold pstep at h2
  cases e : pstep1 s c with
  | none => rw [e] at h2; cases h2
  | some q =>
    rw [e] at h2
    have h2 : (if pbad q = true then none else some q) = some s' := h2
    cases hb : pbad q with
    | true => rw [hb] at h2; cases h2
    | false =>
      rw [hb] at h2
      cases h2
      exact ⟨_, rfl, hb, h'⟩
theorem pstep1_cases {s s' : PS} {c : Nat} (h : pstep1 s c = some s') :
    (c = 40 ∧ isHead s.head = true ∧ s' = ⟨[] :: s.rows, part s.head :: s.heads, []⟩) ∨
    (c = 41 ∧ ∃ h0 hs ks r rs, s = ⟨ks :: r :: rs, h0 :: hs, []⟩ ∧ s' = ⟨(r ++ [Tr.nd h0.1 h0.2.2 ks]) :: rs, hs, []⟩) ∨
    (c ≠ 40 ∧ c ≠ 41 ∧ s' = ⟨s.rows, s.heads, s.head ++ [c]⟩) := by
  unfold pstep1 at h
  by_cases h1 : c = 40
  · rw [if_pos h1] at h
    cases e : isHead s.head with
    | false => rw [e] at h; cases h
    | true => rw [e] at h; cases h; exact .inl ⟨h1, rfl, rfl⟩
  rw [if_neg h1] at h
  by_cases h2 : c = 41
  · rw [if_pos h2] at h
    obtain ⟨rows, heads, head⟩ := s
    rcases head with _ | ⟨x, head⟩
    · rcases heads with _ | ⟨h0, hs⟩
      · cases h
      · rcases rows with _ | ⟨ks, _ | ⟨r, rs⟩⟩
        · cases h
        · cases h
        · cases h
          exact .inr (.inl ⟨h2, h0, hs, ks, r, rs, rfl, rfl⟩)
    · cases h
  · rw [if_neg h2] at h
    cases h
    exact .inr (.inr ⟨h1, h2, rfl⟩)
/-- what is so at every turn -/
structure PSz (j : Nat) (s : PS) : Prop where
  rh : s.rows.length = s.heads.length + 1
  rj : s.rows.length ≤ j + 1
  kj : ∀ ks ∈ s.rows, ks.length ≤ j
  hj : s.head.length ≤ j
theorem PSz.init : PSz 0 pinit := ⟨rfl, Nat.le_refl _, fun ks h => by rw [List.mem_singleton.mp h]; exact Nat.le_refl _, Nat.le_refl _⟩
theorem PSz.step {j : Nat} {s s' : PS} {c : Nat} (z : PSz j s) (h : pstep1 s c = some s') : PSz (j + 1) s' := by
  obtain ⟨rh, rj, kj, hj⟩ := z
  rcases pstep1_cases h with ⟨_, _, rfl⟩ | ⟨_, h0, hs, ks, r, rs, rfl, rfl⟩ | ⟨_, _, rfl⟩
  · refine ⟨by simp only [List.length_cons]; omega, by simp only [List.length_cons]; omega, fun k hk => ?_, Nat.zero_le _⟩
    rcases List.mem_cons.mp hk with rfl | hk
    · exact Nat.zero_le _
    · have := kj k hk; omega
  · simp only [List.length_cons] at rh rj
    refine ⟨by simp only [List.length_cons]; omega, by simp only [List.length_cons]; omega, fun k hk => ?_, Nat.zero_le _⟩
    rcases List.mem_cons.mp hk with rfl | hk
    · have := kj r (by simp)
      simp
      omega
    · have := kj k (by simp [hk]); omega
  · refine ⟨rh, (by show s.rows.length ≤ _; omega), fun k hk => ?_, ?_⟩
    · have := kj k hk; omega
    · show (s.head ++ [c]).length ≤ j + 1
      simp
      omega
theorem psz_run {l : List Nat} {z : PS} (h : prun pinit l = some z) : ∀ i, i ≤ l.length → ∀ s, prun pinit (l.take i) = some s → PSz i s
  | 0, _, s, e => by
    have e : some pinit = some s := e
    cases e
    exact PSz.init
  | i + 1, hi, s, e => by
    obtain ⟨s0, h0⟩ := prun_take (i := i) h
    obtain ⟨s', h1, _, h3⟩ := prun_next h (List.getElem?_eq_getElem (show i < l.length by omega)) h0
    rw [h3] at e
    cases e
    exact (psz_run h i (by omega) s0 h0).step h1
/-! ### what the parser reads is a tree with true labels -/
def HeadOk (h : List Nat × List Nat × List Nat) : Prop := (1 ≤ h.1.length ∧ h.1.length ≤ 8 ∧ ∀ c ∈ h.1, c ∈ smalls) ∧ (h.2.2.length ≤ 60 ∧ ∀ c ∈ h.2.2, c ∈ wsigns)
theorem isHead_ok {h : List Nat} (e : isHead h = true) : HeadOk (part h) := by
  unfold isHead at e
  by_cases hc : (decide ((part h).1.length < 1) || decide (8 < (part h).1.length) || !allIn smalls (part h).1) = true
  · rw [if_pos hc] at e; cases e
  rw [if_neg hc] at e
  have hc : (decide ((part h).1.length < 1) || decide (8 < (part h).1.length) || !allIn smalls (part h).1) = false := by
    cases q : (decide ((part h).1.length < 1) || decide (8 < (part h).1.length) || !allIn smalls (part h).1) with
    | true => exact absurd q hc
    | false => rfl
  rw [Bool.or_eq_false_iff, Bool.or_eq_false_iff, decide_eq_false_iff_not, decide_eq_false_iff_not, Bool.not_eq_false'] at hc
  obtain ⟨⟨c1, c2⟩, c3⟩ := hc
  refine ⟨⟨by omega, by omega, fun c hm => of_decide_eq_true (List.all_eq_true.mp c3 c hm)⟩, ?_⟩
  by_cases h2 : (part h).2.1 = []
  · rcases part_cases h with ⟨_, q⟩ | ⟨a, b, _, _, q⟩
    · rw [q]; exact ⟨Nat.zero_le _, fun _ z => (nomatch z)⟩
    · rw [q] at h2; cases h2
  · rw [if_neg h2, Bool.and_eq_true, Bool.and_eq_true, decide_eq_true_iff, decide_eq_true_iff] at e
    exact ⟨e.1.2, fun c hm => of_decide_eq_true (List.all_eq_true.mp e.2 c hm)⟩
theorem prun_ok : ∀ (l : List Nat) (s z : PS), prun s l = some z → (∀ ks ∈ s.rows, OkL ks) → (∀ h ∈ s.heads, HeadOk h) → (∀ ks ∈ z.rows, OkL ks)
  | [], s, z, h, h1, h2 => by
    have h : some s = some z := h
    cases h
    exact h1
  | x :: l, s, z, h, h1, h2 => by
    have h : (pstep s x).bind (fun s' => prun s' l) = some z := h
    cases e : pstep s x with
    | none => rw [e] at h; cases h
    | some s' =>
      rw [e] at h
      unfold pstep at e
      cases e1 : pstep1 s x with
      | none => rw [e1] at e; cases e
      | some q =>
        rw [e1] at e
        have e : (if pbad q = true then none else some q) = some s' := e
        have e2 : q = s' := by
          split at e
          · cases e
          · exact Option.some.inj e
        subst e2
        refine prun_ok l q z h ?_ ?_
        · rcases pstep1_cases e1 with ⟨_, _, rfl⟩ | ⟨_, h0, hs, ks, r, rs, rfl, rfl⟩ | ⟨_, _, rfl⟩
          · intro ks hk
            rcases List.mem_cons.mp hk with rfl | hk
            · simp only [OkL]
            · exact h1 ks hk
          · intro k hk
            rcases List.mem_cons.mp hk with rfl | hk
            · rw [okL_app]
              simp only [OkL, Tr.Ok]
              exact ⟨h1 r (by simp), ⟨(h2 h0 (by simp)).1, (h2 h0 (by simp)).2, h1 ks (by simp)⟩, trivial⟩
            · exact h1 k (by simp [hk])
          · exact h1
        · rcases pstep1_cases e1 with ⟨_, e3, rfl⟩ | ⟨_, h0, hs, ks, r, rs, rfl, rfl⟩ | ⟨_, _, rfl⟩
          · intro k hk
            rcases List.mem_cons.mp hk with rfl | hk
            · exact isHead_ok e3
            · exact h2 k hk
          · intro k hk
            exact h2 k (by simp [hk])
          · exact h2
theorem parsed_ok {l : List Nat} {t : Tr} (h : Parsed l t) : t.Ok := by
  have := prun_ok l pinit _ h (fun ks hk => by rw [List.mem_singleton.mp hk]; simp only [OkL]) (fun _ hk => nomatch hk) [t] (by simp)
  simp only [OkL] at this
  exact this.1
/-! ### the parser's lists in the heap -/
def keepT (H H' : Hp) : Prop := ∀ a t, H a = some (.tup t) → H' a = some (.tup t)
theorem keepT.refl (H : Hp) : keepT H H := fun _ _ h => h
theorem keepT.trans {H H' H'' : Hp} (s : keepT H H') (t : keepT H' H'') : keepT H H'' := fun a v h => t a v (s a v h)
theorem keepT_same {H H' : Hp} (s : Same H H') : keepT H H' := fun a t h => s a _ h
theorem keepT_lst {H : Hp} {a : Addr} {xs : List V} (h : H a = some (.lst xs)) (o : HO) : keepT H (upd H a o) := fun b t e => by
  rw [upd_ne]
  · exact e
  · intro z
    rw [z, h] at e
    cases e
mutual
theorem TrAt.keep {H H' : Hp} (s : keepT H H') : ∀ {t : Tr} {v : V}, TrAt H v t → TrAt H' v t
  | .nd t w ks, v, h => by
    simp only [TrAt] at h ⊢
    obtain ⟨a, b, vs, e, h1, h2, h3⟩ := h
    exact ⟨a, b, vs, e, s _ _ h1, s _ _ h2, TrsAt.keep s h3⟩
theorem TrsAt.keep {H H' : Hp} (s : keepT H H') : ∀ {ts : List Tr} {vs : List V}, TrsAt H vs ts → TrsAt H' vs ts
  | [], vs, h => by simpa only [TrsAt] using h
  | t :: ts, vs, h => by
    simp only [TrsAt] at h ⊢
    obtain ⟨v, r, e, h1, h2⟩ := h
    exact ⟨v, r, e, TrAt.keep s h1, TrsAt.keep s h2⟩
end
def RowsT (H : Hp) : List Addr → List (List Tr) → Prop
  | [], [] => True
  | b :: rs, ks :: rows => (∃ vs, H b = some (.lst vs) ∧ TrsAt H vs ks) ∧ RowsT H rs rows
  | _, _ => False
def HeadsT (H : Hp) : List Addr → List (List Nat × List Nat × List Nat) → Prop
  | [], [] => True
  | b :: hs, h :: heads => H b = some (.tup [.str (S h.1), .str (S h.2.1), .str (S h.2.2)]) ∧ HeadsT H hs heads
  | _, _ => False
theorem RowsT.keep {H H' : Hp} (k : keepT H H') : ∀ {rs : List Addr} {rows : List (List Tr)}, (∀ b ∈ rs, H' b = H b) → RowsT H rs rows → RowsT H' rs rows
  | [], [], _, _ => trivial
  | b :: rs, ks :: rows, hb, h => by
    obtain ⟨⟨vs, h1, h2⟩, h3⟩ := h
    exact ⟨⟨vs, by rw [hb b (by simp)]; exact h1, h2.keep k⟩, RowsT.keep k (fun b' hb' => hb b' (by simp [hb'])) h3⟩
  | [], _ :: _, _, h => h.elim
  | _ :: _, [], _, h => h.elim
theorem HeadsT.keep {H H' : Hp} (k : keepT H H') : ∀ {hs : List Addr} {heads : List (List Nat × List Nat × List Nat)}, HeadsT H hs heads → HeadsT H' hs heads
  | [], [], _ => trivial
  | b :: hs, h :: heads, e => ⟨k _ _ e.1, HeadsT.keep k e.2⟩
  | [], _ :: _, h => h.elim
  | _ :: _, [], h => h.elim
theorem RowsT.len {H : Hp} : ∀ {rs : List Addr} {rows : List (List Tr)}, RowsT H rs rows → rs.length = rows.length
  | [], [], _ => rfl
  | b :: rs, ks :: rows, h => by simp only [List.length_cons]; rw [RowsT.len h.2]
  | [], _ :: _, h => h.elim
  | _ :: _, [], h => h.elim
theorem HeadsT.len {H : Hp} : ∀ {rs : List Addr} {rows : List (List Nat × List Nat × List Nat)}, HeadsT H rs rows → rs.length = rows.length
  | [], [], _ => rfl
  | b :: rs, ks :: rows, h => by simp only [List.length_cons]; rw [HeadsT.len h.2]
  | [], _ :: _, h => h.elim
  | _ :: _, [], h => h.elim
theorem RowsT.mem {H : Hp} : ∀ {rs : List Addr} {rows : List (List Tr)}, RowsT H rs rows → ∀ b ∈ rs, ∃ vs, H b = some (.lst vs)
  | b :: rs, ks :: rows, h, b', hb => by
    rcases List.mem_cons.mp hb with rfl | hb
    · obtain ⟨⟨vs, h1, _⟩, _⟩ := h
      exact ⟨vs, h1⟩
    · exact RowsT.mem h.2 b' hb
  | _ :: _, [], h, _, _ => h.elim
structure PSAt (H0 H : Hp) (rA hA : Addr) (rs hs : List Addr) (s : PS) : Prop where
  r : H rA = some (.lst (rs.reverse.map V.ref))
  h : H hA = some (.lst (hs.reverse.map V.ref))
  ne : rA ≠ hA
  nr : rA ∉ rs
  nh : hA ∉ rs
  nd : rs.Nodup
  n1 : H0 rA = none
  n2 : H0 hA = none
  n3 : ∀ b ∈ rs, H0 b = none
  rows : RowsT H rs s.rows
  heads : HeadsT H hs s.heads
theorem none_of_same {H0 H : Hp} (s : Same H0 H) {a : Addr} (h : H a = none) : H0 a = none := by
  cases e : H0 a with
  | none => rfl
  | some u => rw [s _ _ e] at h; cases h
end Wd
namespace Wd
open PySem L2
open TL (tl tl_append ext_tl mk_tl partition_app partition_none len_tl)
section
variable {P : Program} {w : World} {K : PySem.W.Frag} {mg : Str → Option Value} {base : Heap}
/-! ### _law_parsed -/
def spParsed : Sp := fun vs H Q _ => ∃ (l : List Nat) (t : Tr), vs = [.str (S l)] ∧ l.length ≤ 50000 ∧ Parsed l t ∧ ∀ (v : V) (H' : Hp), Same H H' → TrAt H' v t → Q v H'
abbrev nParsed : List Str := ["_law_line", "_law_rows", "_law_heads", "_law_head", "_law_sign", "_law_kids", "_law_parts"]
theorem scParsed : FnScope nParsed ["_law_line"] (defScope sParsed) := ⟨rfl, rfl, rfl, by decide +kernel, rfl, by decide +kernel, by decide +kernel⟩
theorem last_at {hs : List Addr} {b : Addr} : ((b :: hs).reverse.map V.ref)[((b :: hs).reverse.map V.ref).length - 1]? = some (V.ref b) := by
  rw [List.reverse_cons, List.map_append]
  simp
theorem drop_last_rev {hs : List Addr} {b : Addr} : ((b :: hs).reverse.map V.ref).dropLast = hs.reverse.map V.ref := by
  rw [List.reverse_cons, List.map_append]
  exact List.dropLast_concat
theorem at_last_rev {hs : List Addr} {b : Addr} : atI ((b :: hs).reverse.map V.ref) (-1) = some (V.ref b) := by
  rw [List.reverse_cons, List.map_append]
  exact atI_last _ _
theorem push_rev {hs : List Addr} {b : Addr} : hs.reverse.map V.ref ++ [V.ref b] = (b :: hs).reverse.map V.ref := by
  rw [List.reverse_cons, List.map_append]
  rfl
theorem ok_parsed {f fI : Addr} {fd fdI : FuncData} (F : Fun K "_law_parsed" "_law_parsed" sParsed f fd) (ml : mg "len" = none) (mt : mg "tuple" = none) (GI : FnOk P w K mg base CX0 1 fI fdI ["_law_head"] spIsHead) (bI : Binds K fdI ["_law_head"] []) (kI : PySem.W.keepIn K (.ref fI) = true) (mI : mg "_law_is_head" = some (.ref fI)) :
    FnOk P w K mg base CX0 2 f fd ["_law_line"] spParsed := by
  refine F.ok scParsed (fun vs H Q E h => ?_) (fun cdv A0 outer s H vs Q E hr h => ?_)
  · obtain ⟨l, t, rfl, _⟩ := h
    rfl
  obtain ⟨l, t, rfl, hl, hP, k⟩ := h
  refine ⟨_, pss_cons (ps_set (i := 1) scParsed.nd rfl (.inl rfl) (pe_lst (pa_cons (pe_lst pa_nil) pa_nil)))
    (pss_cons (ps_set (i := 2) scParsed.nd rfl (.inl rfl) (pe_lst pa_nil))
    (pss_cons (ps_set (i := 3) scParsed.nd rfl (.inl rfl) pe_str)
    (pss_cons (ps_for PassesOwn.never rfl (pi_str (pv 0)) (pg_name (i := 4) scParsed.nd rfl (.inl rfl))
      (Evl.pss_cut (ps_if (pt_cmpR op_eq (pv 4) pe_str (nomark _))
          (pss_cons (ps_if (pt_not (pt_val (pe_call GI hr rfl mI kI bI .nil pass0 (pa_cons (pv 3) pa_nil)))) (pss_one (ps_ret pe_non)) pss_nil)
          (pss_cons (ps_expr (pe_bm PySem.F.plainAttrs_list PySem.F.slot_list_append PySem.F.type_list_append mt_append (pv 2) (pa_cons (pe_partition (pv 3) pe_str) pa_nil)))
          (pss_cons (ps_expr (pe_bm PySem.F.plainAttrs_list PySem.F.slot_list_append PySem.F.type_list_append mt_append (pv 1) (pa_cons (pe_lst pa_nil) pa_nil)))
          (pss_one (ps_set (i := 3) scParsed.nd rfl (.inl rfl) pe_str)))))
          (pss_one (ps_if (pt_cmpR op_eq (pv 4) pe_str (nomark _))
            (pss_cons (ps_if (PW.pt (pw_or (pt_cmpR op_ne (pv 3) pe_str (nomark _)) (pw_or1 (pt_cmpR op_eq (pe_callB call_len_seq rfl ml boot_len (pa_cons (pv 2) pa_nil)) pe_int (nomark _))))) (pss_one (ps_ret pe_non)) pss_nil)
            (pss_cons (ps_set (i := 5) scParsed.nd rfl (.inl rfl) (pe_callTy call_tuple_of rfl mt bootTuple (pa_cons (pe_bm0 PySem.F.plainAttrs_list PySem.F.slot_list_pop PySem.F.type_list_pop mt_pop (pv 1)) pa_nil)))
            (pss_cons (ps_set (i := 6) scParsed.nd rfl (.inl rfl) (pe_bm0 PySem.F.plainAttrs_list PySem.F.slot_list_pop PySem.F.type_list_pop mt_pop (pv 2)))
            (pss_one (ps_expr (pe_bm PySem.F.plainAttrs_list PySem.F.slot_list_append PySem.F.type_list_append mt_append (pe_ix ix_list (pv 1) (pe_un un_neg pe_int) (fun _ _ => rfl))
              (pa_cons (pe_tup (pa_cons (pe_ix ix_tup (pv 6) pe_int (fun _ _ => rfl)) (pa_cons (pe_ix ix_tup (pv 6) pe_int (fun _ _ => rfl)) (pa_cons (pv 5) pa_nil)))) pa_nil)))))))
            (pss_one (ps_set (i := 3) scParsed.nd rfl (.inl rfl) (pe_op op_add_str (pv 3) (pv 4)))))))
      (pss_one (ps_if (PW.pt (pw_and (pt_cmpR op_eq (pe_callB call_len_seq rfl ml boot_len (pa_cons (pv 2) pa_nil)) pe_int (nomark _))
          (pw_and (pt_cmpR op_gt (pe_callB call_len_seq rfl ml boot_len (pa_cons (pe_ix ix_list (pv 1) pe_int (fun _ _ => rfl)) pa_nil)) pe_int (nomark _))
          (pw_and1 (PW.pt (pw_or (pt_cmpR op_ne (pv 3) pe_str (nomark _)) (pw_or1 (pt_cmpR op_gt (pe_callB call_len_seq rfl ml boot_len (pa_cons (pe_ix ix_list (pv 1) pe_int (fun _ _ => rfl)) pa_nil)) pe_int (nomark _))))))))) (pss_one (ps_ret pe_non)) pss_nil))))
    (pss_cons (ps_if (PW.pt (pw_or (pt_cmpR op_ne (pv 3) pe_str (nomark _)) (pw_or (pt_cmpR op_gt (pe_callB call_len_seq rfl ml boot_len (pa_cons (pv 2) pa_nil)) pe_int (nomark _))
        (pw_or1 (pt_cmpR op_ne (pe_callB call_len_seq rfl ml boot_len (pa_cons (pe_ix ix_list (pv 1) pe_int (fun _ _ => rfl)) pa_nil)) pe_int (nomark _)))))) (pss_one (ps_ret pe_non)) pss_nil)
    (pss_one (ps_ret (pe_ix ix_list (pe_ix ix_list (pv 1) pe_int (fun _ _ => rfl)) pe_int (fun _ _ => rfl)))))))), ?_⟩
  refine ⟨Nat.zero_le _, fun b0 hb0 => ?_⟩
  have sa := same_new hb0 (.lst [])
  refine ⟨(by show 1 ≤ sizeLine; decide), fun rA hrA => ?_⟩
  have sb := same_new hrA (.lst [V.ref b0])
  refine ⟨Nat.zero_le _, fun hA hhA => ?_⟩
  have sc := same_new hhA (.lst [])
  have s03 := (sa.trans sb).trans sc
  have nrA : H rA = none := none_of_same sa hrA
  have nhA : H hA = none := none_of_same (sa.trans sb) hhA
  have e1 : rA ≠ hA := fun e => by rw [← e, upd_same] at hhA; cases hhA
  have e2 : rA ≠ b0 := fun e => by rw [e, upd_same] at hrA; cases hrA
  have e3 : hA ≠ b0 := fun e => by rw [e, upd_ne (Ne.symm e2), upd_same] at hhA; cases hhA
  have hI0 : PSAt H (upd (upd (upd H b0 (.lst [])) rA (.lst [V.ref b0])) hA (.lst [])) rA hA [b0] [] pinit :=
    ⟨by rw [upd_ne e1, upd_same]; rfl, by rw [upd_same]; rfl, e1, by simp [e2], by simp [e3], by simp, nrA, nhA, fun b hb => by rw [List.mem_singleton.mp hb]; exact hb0,
      ⟨⟨[], by rw [upd_ne (Ne.symm e3), upd_ne (Ne.symm e2), upd_same], by simp only [TrsAt]⟩, trivial⟩, trivial⟩
  generalize upd (upd (upd H b0 (.lst [])) rA (.lst [V.ref b0])) hA (.lst []) = H3 at s03 hI0
  refine ⟨_, rfl, _, rfl, ?_⟩
  refine for_str (fun j σ H' => ∃ (y4 y5 y6 : Option V) (hd : Str) (rs hs : List Addr) (s : PS), σ = [some (.str (S l)), some (.ref rA), some (.ref hA), some (.str hd), y4, y5, y6] ∧ hd = S s.head ∧ prun pinit (l.take j) = some s ∧ PSAt H H' rA hA rs hs s ∧ Same H H')
    ⟨none, none, none, _, [b0], [], pinit, rfl, str_nil, rfl, hI0, s03⟩ ?_ ?_
  · rintro j c σ H1 hj ⟨y4, y5, y6, hd, rs, hs, s, rfl, rfl, hrun, hA1, s1⟩
    have hjl := (List.getElem?_eq_some_iff.mp hj).1
    obtain ⟨s', hst, hbad, hrun'⟩ := prun_next hP hj hrun
    have z := psz_run hP j (by omega) s hrun
    have z' := z.step hst
    have hcs := pstep1_cases hst
    have hhs : s.heads.length ≤ j := by have := z.rh; have := z.rj; omega
    have hhl : s.head.length ≤ j := z.hj
    refine ⟨fun σ' H' => ∃ (y5 y6 : Option V) (hd : Str) (rs hs : List Addr), σ' = [some (.str (S l)), some (.ref rA), some (.ref hA), some (.str hd), some (.str (S [c])), y5, y6] ∧ hd = S s'.head ∧ PSAt H H' rA hA rs hs s' ∧ Same H H', ?_, ?_⟩
    · refine ⟨_, rfl, rfl, _, rfl, ?_⟩
      rcases hcs with ⟨rfl, hih, rfl⟩ | ⟨rfl, h0, hs0, ks, r, rs0, rfl, rfl⟩ | ⟨c1, c2, rfl⟩
      · refine ite_t ((is40 _).trans rfl) ?_
        refine ⟨_, rfl, s.head, rfl, by omega, fun H2 s12 => ⟨_, rfl, ?_⟩⟩
        rw [hih]
        refine ite_f rfl ?_
        have hh2 := s12 _ _ hA1.h
        have hr2 := s12 _ _ hA1.r
        have k12 := keepT_same s12
        refine ⟨_, rfl, .inl ⟨rfl, _, SqL.of hh2⟩, _, rfl, ⟨_, rfl⟩, S s.head, ":", rfl, rfl, by decide +kernel, (by rw [S_len]; exact sz _ (by omega)), fun p hp => ?_⟩
        rw [part_txt]
        have s23 := same_new hp (.tup [.str (S (part s.head).1), .str (S (part s.head).2.1), .str (S (part s.head).2.2)])
        have hpp : upd H2 p (.tup [.str (S (part s.head).1), .str (S (part s.head).2.1), .str (S (part s.head).2.2)]) p = _ := upd_same
        generalize upd H2 p (.tup [.str (S (part s.head).1), .str (S (part s.head).2.1), .str (S (part s.head).2.2)]) = H3' at s23 hpp
        have hh3 := s23 _ _ hh2
        have hr3 := s23 _ _ hr2
        refine ⟨hA, _, _, rfl, rfl, hh3, (by rw [List.length_map, List.length_reverse, hA1.heads.len]; exact szl _ (by omega)), ?_⟩
        rw [push_rev]
        have k34 := keepT_lst hh3 (.lst ((p :: hs).reverse.map V.ref))
        have hr4 : upd H3' hA (.lst ((p :: hs).reverse.map V.ref)) rA = some (.lst (rs.reverse.map V.ref)) := by rw [upd_ne hA1.ne]; exact hr3
        have hh4 : upd H3' hA (.lst ((p :: hs).reverse.map V.ref)) hA = some (.lst ((p :: hs).reverse.map V.ref)) := upd_same
        have hrs4 : ∀ b ∈ rs, upd H3' hA (.lst ((p :: hs).reverse.map V.ref)) b = H1 b := fun b hb => by
          obtain ⟨vs, e⟩ := hA1.rows.mem b hb
          rw [upd_ne (fun e : b = hA => hA1.nh (e ▸ hb)), e, s23 _ _ (s12 _ _ e)]
        have s4 : Same H (upd H3' hA (.lst ((p :: hs).reverse.map V.ref))) := same_upd ((s1.trans s12).trans s23) hA1.n2 _
        have k4 := (k12.trans (keepT_same s23)).trans k34
        have hpp4 := k34 _ _ hpp
        generalize upd H3' hA (.lst ((p :: hs).reverse.map V.ref)) = H4 at hr4 hh4 hrs4 s4 k4 hpp4
        refine ⟨_, rfl, .inl ⟨rfl, _, SqL.of hr4⟩, Nat.zero_le _, fun q hq => ?_⟩
        have nq : H q = none := none_of_same s4 hq
        have qr : rA ≠ q := ne_of_none hr4 hq
        have qh : hA ≠ q := ne_of_none hh4 hq
        have qs : q ∉ rs := fun hm => by
          obtain ⟨vs, e⟩ := hA1.rows.mem q hm
          rw [hrs4 q hm, e] at hq
          cases hq
        refine ⟨rA, _, _, rfl, rfl, (by rw [upd_ne qr]; exact hr4), (by rw [List.length_map, List.length_reverse, hA1.rows.len]; have := z.rj; exact szl _ (by omega)), ?_⟩
        rw [push_rev]
        have k45 := keepT_same (same_new hq (.lst []))
        have k56 : keepT (upd H4 q (.lst [])) (upd (upd H4 q (.lst [])) rA (.lst ((q :: rs).reverse.map V.ref))) := keepT_lst (by rw [upd_ne qr]; exact hr4) _
        have k6 := (k4.trans k45).trans k56
        refine ⟨_, _, _, q :: rs, p :: hs, rfl, str_nil, ⟨upd_same, by rw [upd_ne (Ne.symm hA1.ne), upd_ne qh]; exact hh4, hA1.ne, by simp [qr, hA1.nr], by simp [qh, hA1.nh], List.nodup_cons.mpr ⟨qs, hA1.nd⟩, hA1.n1, hA1.n2, fun b hb => ?_,
          ⟨⟨[], by rw [upd_ne (Ne.symm qr), upd_same], by simp only [TrsAt]⟩, hA1.rows.keep k6 fun b hb => ?_⟩, ⟨k56 _ _ (k45 _ _ hpp4), hA1.heads.keep k6⟩⟩, ?_⟩
        · rcases List.mem_cons.mp hb with rfl | hb
          · exact nq
          · exact hA1.n3 b hb
        · rw [upd_ne (fun e : b = rA => hA1.nr (e ▸ hb)), upd_ne (fun e : b = q => qs (e ▸ hb))]
          exact hrs4 b hb
        · exact same_upd (s4.trans (same_new hq _)) hA1.n1 _
      · refine ite_f ((is40 _).trans (by decide)) ?_
        refine ⟨_, rfl, rfl, _, rfl, ?_⟩
        refine ite_t ((is41 _).trans rfl) ?_
        -- the lists
        obtain ⟨hr, hh, ne, nr, nh, nd, n1, n2, n3, hrows, hheads⟩ := hA1
        cases rs with
        | nil => exact hrows.elim
        | cons b rs =>
        cases rs with
        | nil => exact hrows.2.elim
        | cons b2 rs =>
        cases hs with
        | nil => exact hheads.elim
        | cons hb hs =>
        obtain ⟨⟨vs, hvs, hTs⟩, ⟨vs2, hvs2, hTs2⟩, hrows⟩ := hrows
        obtain ⟨hhb, hheads⟩ := hheads
        have hlen1 := hheads.len
        have hlen2 := hrows.len
        refine ⟨_, rfl, rfl, _, rfl, ?_⟩
        refine ite_f (by rw [isNil]; rfl) ?_
        refine ⟨_, rfl, hA, _, rfl, .inl (SqL.of hh), rfl, _, rfl, ?_⟩
        refine ite_f ((int_eq _ _).trans (decide_eq_false (by rw [List.length_map, List.length_reverse, List.length_cons]; omega))) ?_
        have mb : b ∉ b2 :: rs := (List.nodup_cons.mp nd).1
        have mb2 : b2 ∉ rs := (List.nodup_cons.mp (List.nodup_cons.mp nd).2).1
        have b_b2 : b ≠ b2 := fun e => mb (by simp [e])
        have rb2 : rA ≠ b2 := fun e => nr (by simp [e])
        have hb2 : hA ≠ b2 := fun e => nh (by simp [e])
        have rb : rA ≠ b := fun e => nr (by simp [e])
        -- kids
        refine ⟨_, rfl, .inl ⟨rfl, _, SqL.of hr⟩, rA, _, _, rfl, rfl, hr, last_at, b, _, rfl, .inl ⟨SqL.of (by rw [upd_ne (Ne.symm rb)]; exact hvs), fun p hp => ?_⟩⟩
        rw [drop_last_rev] at hp ⊢
        have ka := keepT_lst hr (.lst ((b2 :: rs).reverse.map V.ref))
        have sa1 : Same H (upd H1 rA (.lst ((b2 :: rs).reverse.map V.ref))) := same_upd s1 n1 _
        have ha1 : upd H1 rA (.lst ((b2 :: rs).reverse.map V.ref)) rA = _ := upd_same
        have ha2 : upd H1 rA (.lst ((b2 :: rs).reverse.map V.ref)) hA = _ := (upd_ne (Ne.symm ne)).trans hh
        have ha3 : ∀ x ∈ b2 :: rs, upd H1 rA (.lst ((b2 :: rs).reverse.map V.ref)) x = H1 x := fun x hx => upd_ne (fun e => nr (by rw [← e]; exact List.mem_cons_of_mem _ hx))
        generalize upd H1 rA (.lst ((b2 :: rs).reverse.map V.ref)) = Ha at hp ka sa1 ha1 ha2 ha3
        have sp := same_new hp (.tup vs)
        have hpp : upd Ha p (.tup vs) p = _ := upd_same
        generalize upd Ha p (.tup vs) = Hb at sp hpp
        have hb1 := sp _ _ ha1
        have hbh := sp _ _ ha2
        have sb1 := sa1.trans sp
        have kb := ka.trans (keepT_same sp)
        have hb3 : ∀ x ∈ b2 :: rs, Hb x = H1 x := fun x hx => by
          have e : ∃ vs, H1 x = some (.lst vs) := by
            rcases List.mem_cons.mp hx with rfl | hx
            · exact ⟨_, hvs2⟩
            · exact hrows.mem x hx
          obtain ⟨vs', e⟩ := e
          rw [e, sp _ _ ((ha3 x hx).trans e)]
        -- parts
        refine ⟨_, rfl, .inl ⟨rfl, _, SqL.of hbh⟩, hA, _, _, rfl, rfl, hbh, last_at, ?_⟩
        rw [drop_last_rev]
        have kc := kb.trans (keepT_lst hbh (.lst (hs.reverse.map V.ref)))
        have hpc := (keepT_lst hbh (.lst (hs.reverse.map V.ref))) _ _ hpp
        have sc1 : Same H (upd Hb hA (.lst (hs.reverse.map V.ref))) := same_upd sb1 n2 _
        have hc1 : upd Hb hA (.lst (hs.reverse.map V.ref)) rA = _ := (upd_ne ne).trans hb1
        have hc2 : upd Hb hA (.lst (hs.reverse.map V.ref)) hA = _ := upd_same
        have hc3 : ∀ x ∈ b2 :: rs, upd Hb hA (.lst (hs.reverse.map V.ref)) x = H1 x := fun x hx => (upd_ne (fun e => nh (by rw [← e]; exact List.mem_cons_of_mem _ hx))).trans (hb3 x hx)
        generalize upd Hb hA (.lst (hs.reverse.map V.ref)) = Hc at kc hpc sc1 hc1 hc2 hc3
        have hhbc := kc _ _ hhb
        -- the node
        refine ⟨_, rfl, 1, rfl, rA, _, _, _, rfl, rfl, SqL.of hc1, at_last_rev, .inl ⟨rfl, _, SqL.of ((hc3 b2 (by simp)).trans hvs2)⟩, ?_⟩
        refine ⟨_, rfl, hb, _, 0, _, rfl, rfl, SqT.of hhbc, rfl, _, rfl, hb, _, 2, _, rfl, rfl, SqT.of hhbc, rfl, _, rfl, (by show 3 ≤ sizeLine; decide), fun p4 hp4 => ?_⟩
        have sd := same_new hp4 (.tup [.str (S h0.1), .str (S h0.2.2), .ref p])
        have hp44 : upd Hc p4 (.tup [.str (S h0.1), .str (S h0.2.2), .ref p]) p4 = _ := upd_same
        have hd1 := sd _ _ hc1
        have hd2 := sd _ _ hc2
        have hdp := sd _ _ hpc
        have hdb2 := sd _ _ ((hc3 b2 (by simp)).trans hvs2)
        have hd3 : ∀ x ∈ rs, upd Hc p4 (.tup [.str (S h0.1), .str (S h0.2.2), .ref p]) x = H1 x := fun x hx => by
          obtain ⟨vs', e⟩ := hrows.mem x hx
          rw [e, sd _ _ ((hc3 x (by simp [hx])).trans e)]
        have kd := kc.trans (keepT_same sd)
        have sd1 := sc1.trans sd
        generalize upd Hc p4 (.tup [.str (S h0.1), .str (S h0.2.2), .ref p]) = Hd at hp44 hd1 hd2 hdp hdb2 hd3 kd sd1
        have hkz := z.kj r (by simp)
        refine ⟨b2, _, _, rfl, rfl, hdb2, (by rw [hTs2.len]; exact szl _ (by omega)), ?_⟩
        have ke := keepT_lst hdb2 (.lst (vs2 ++ [V.ref p4]))
        have kf := kd.trans ke
        refine ⟨_, _, _, b2 :: rs, hs, rfl, rfl, ⟨by rw [upd_ne rb2]; exact hd1, by rw [upd_ne hb2]; exact hd2, ne, fun hm => nr (List.mem_cons_of_mem _ hm), fun hm => nh (List.mem_cons_of_mem _ hm), (List.nodup_cons.mp nd).2, n1, n2, fun x hx => n3 x (List.mem_cons_of_mem _ hx),
          ⟨⟨vs2 ++ [V.ref p4], upd_same, ?_⟩, hrows.keep kf fun x hx => ?_⟩, hheads.keep kf⟩, same_upd sd1 (n3 b2 (by simp)) _⟩
        · refine TrsAt.app (hTs2.keep kf) ?_
          simp only [TrsAt]
          refine ⟨_, _, rfl, ?_, rfl⟩
          simp only [TrAt]
          exact ⟨p4, p, vs, rfl, ke _ _ hp44, ke _ _ hdp, hTs.keep kf⟩
        · rw [upd_ne (fun e : x = b2 => mb2 (e ▸ hx))]
          exact hd3 x hx
      · refine ite_f ((is40 _).trans (decide_eq_false c1)) ?_
        refine ⟨_, rfl, rfl, _, rfl, ?_⟩
        refine ite_f ((is41 _).trans (decide_eq_false c2)) ?_
        refine ⟨_, rfl, _, rfl, S s.head, S [c], rfl, rfl, (by rw [S_len, S_len]; exact sz _ (by simp; omega)), ?_⟩
        exact ⟨_, _, _, rs, hs, rfl, S_app _ _, ⟨hA1.r, hA1.h, hA1.ne, hA1.nr, hA1.nh, hA1.nd, hA1.n1, hA1.n2, hA1.n3, hA1.rows, hA1.heads⟩, s1⟩
    rintro σ' H2 ⟨y5, y6, hd, rs, hs, rfl, rfl, hA2, s2⟩
    refine ⟨_, rfl, hA, _, rfl, .inl (SqL.of hA2.h), rfl, _, rfl, ?_⟩
    have hlh := hA2.heads.len
    have hlr := hA2.rows.len
    have hrh := z'.rh
    have fin : ∀ σ H', σ = [some (.str (S l)), some (.ref rA), some (.ref hA), some (.str (S s'.head)), some (.str (S [c])), y5, y6] → H' = H2 → ∃ (y4 y5 y6 : Option V) (hd : Str) (rs hs : List Addr) (s : PS), σ = [some (.str (S l)), some (.ref rA), some (.ref hA), some (.str hd), y4, y5, y6] ∧ hd = S s.head ∧ prun pinit (l.take (j + 1)) = some s ∧ PSAt H H' rA hA rs hs s ∧ Same H H' :=
      fun σ H' e1 e2 => by subst e1; subst e2; exact ⟨_, _, _, _, rs, hs, s', rfl, rfl, hrun', hA2, s2⟩
    by_cases ch : s'.heads.length = 0
    · refine ite_t ((int_eq _ _).trans (decide_eq_true (by rw [List.length_map, List.length_reverse]; omega))) ?_
      obtain ⟨rows', heads', head'⟩ := s'
      have ch : heads'.length = 0 := ch
      have hh0 : heads' = [] := List.length_eq_zero_iff.mp ch
      subst hh0
      have hrh : rows'.length = 0 + 1 := hrh
      have hlr : rs.length = rows'.length := hlr
      cases rows' with
      | nil => cases hrh
      | cons r0 rr =>
      have hrr : rr = [] := List.length_eq_zero_iff.mp (by simpa using hrh)
      subst hrr
      cases rs with
      | nil => cases hlr
      | cons b rs =>
      have hrs : rs = [] := List.length_eq_zero_iff.mp (by simpa using hlr)
      subst hrs
      obtain ⟨⟨vs, hvs, hTs⟩, _⟩ := hA2.rows
      have hvl := hTs.len
      have hr2 : H2 rA = some (.lst [V.ref b]) := hA2.r
      unfold pbad at hbad
      simp only [List.isEmpty_nil, Bool.true_and, List.getLastD_cons, List.getLastD_nil] at hbad
      refine ⟨_, rfl, rA, _, 0, _, rfl, rfl, SqL.of hr2, at_zero, b, _, rfl, .inl (SqL.of hvs), _, 0, rfl, rfl, _, rfl, ?_⟩
      by_cases c0 : 0 < r0.length
      · refine ite_t (decide_eq_true (by omega)) ?_
        rw [decide_eq_true c0, Bool.true_and, Bool.or_eq_false_iff] at hbad
        refine ⟨_, rfl, rfl, _, rfl, ?_⟩
        refine ite_f (by rw [isNil]; simpa using hbad.1) ?_
        refine ⟨_, rfl, rA, _, 0, _, rfl, rfl, SqL.of hr2, at_zero, b, _, rfl, .inl (SqL.of hvs), _, 1, rfl, rfl, _, rfl, ?_⟩
        have : ¬ 1 < r0.length := of_decide_eq_false hbad.2
        refine ite_f (decide_eq_false (by omega)) ?_
        exact fin _ _ rfl rfl
      · refine ite_f (decide_eq_false (by omega)) ?_
        exact fin _ _ rfl rfl
    · refine ite_f ((int_eq _ _).trans (decide_eq_false (by rw [List.length_map, List.length_reverse]; omega))) ?_
      exact fin _ _ rfl rfl
  · rintro σ H1 ⟨y4, y5, y6, hd, rs, hs, s, rfl, rfl, hrun, hA1, s1⟩
    rw [List.take_length] at hrun
    have hP' : prun pinit l = some ⟨[[t]], [], []⟩ := hP
    rw [hP'] at hrun
    cases hrun
    obtain ⟨hr, hh, ne, nr, nh, nd, n1, n2, n3, hrows, hheads⟩ := hA1
    cases rs with
    | nil => exact hrows.elim
    | cons b rs =>
    cases rs with
    | cons b2 rs => exact hrows.2.elim
    | nil =>
    cases hs with
    | cons hb hs => exact hheads.elim
    | nil =>
    obtain ⟨⟨vs, hvs, hTs⟩, _⟩ := hrows
    simp only [TrsAt] at hTs
    obtain ⟨v, r, e, hT, e2⟩ := hTs
    subst e2
    subst e
    have hr : H1 rA = some (.lst [V.ref b]) := hr
    refine ⟨_, rfl, rfl, _, rfl, ?_⟩
    refine ite_f (by rw [isNil]; rfl) ?_
    refine ⟨_, rfl, hA, _, rfl, .inl (SqL.of hh), _, 0, rfl, rfl, _, rfl, ?_⟩
    refine ite_f rfl ?_
    refine ⟨_, rfl, rA, _, 0, _, rfl, rfl, SqL.of hr, at_zero, b, _, rfl, .inl (SqL.of hvs), rfl, _, rfl, ?_⟩
    refine ite_f (by rw [int_eq]; rfl) ?_
    exact ⟨_, rfl, rA, _, 0, _, rfl, rfl, SqL.of hr, at_zero, b, _, 0, v, rfl, rfl, SqL.of hvs, at_zero, k v H1 s1 hT⟩
end
end Wd
namespace Wd
open PySem L2
open TL (tl tl_append ext_tl mk_tl partition_app partition_none len_tl)
def sgV (c : Nat) : V := .str (S [c])
theorem find_ge (a b : Str) : -1 ≤ Txt.find a b := by
  unfold Txt.find
  split <;> omega
theorem cnt_sub {x : Nat} {a b : List Nat} (h : a.Sublist b) : cnt x a ≤ cnt x b := h.count_le x
theorem cnt_app (x : Nat) (a b : List Nat) : cnt x (a ++ b) = cnt x a + cnt x b := List.count_append
theorem cnt_one (x c : Nat) : cnt 40 [c] + cnt 41 [c] ≤ 1 := by
  unfold cnt
  by_cases h : c = 40
  · subst h; decide
  · by_cases h2 : c = 41
    · subst h2; decide
    · rw [List.count_eq_zero.mpr (by simp; omega), List.count_eq_zero.mpr (by simp; omega)]
      omega
theorem cnt_rep (x c n : Nat) : cnt 40 (List.replicate n c) + cnt 41 (List.replicate n c) ≤ n := by
  have := cnt_le (List.replicate n c)
  rw [List.length_replicate] at this
  omega
def someL : List Nat := tl ("abcdefghijklmnopqrstuvwxyz0123456789()():::" : Str)
theorem some_str : ("abcdefghijklmnopqrstuvwxyz0123456789()():::" : Str) = S someL := S_of _
theorem some_len : someL.length = 43 := by decide +kernel
section
variable {P : Program} {w : World} {K : PySem.W.Frag} {mg : Str → Option Value} {base : Heap}
/-! ### _law_signs -/
def spSigns (K : PySem.W.Frag) : Sp := fun vs H Q _ => ∃ (a : Addr) (ns : List Int) (kk : Int) (line : List Nat), vs = [.ref a, .int kk, .str (S line)] ∧ SqL K H a (ns.map V.int) ∧ ns.length ≤ 63 ∧ 0 ≤ kk ∧ kk ≤ 2000 ∧ line.length ≤ 1000 ∧ cnt 40 line + cnt 41 line ≤ 18 ∧
  ∀ (p : Addr) (H' : Hp) (x : List Nat), Same H H' → H p = none → H' p = some (.lst (x.map sgV)) → x.length ≤ 2000 → cnt 40 x + cnt 41 x ≤ 80 → Q (.ref p) H'
abbrev nSigns : List Str := ["_law_script", "_law_k", "_law_line", "_law_cut", "_law_signs_here", "_law_some", "_law_way", "_law_j", "_law_sign"]
theorem scSigns : FnScope nSigns ["_law_script", "_law_k", "_law_line"] (defScope sSigns) := ⟨rfl, rfl, rfl, by decide +kernel, rfl, by decide +kernel, by decide +kernel⟩
theorem ok_signs {f fD : Addr} {fd fdD : FuncData} (F : Fun K "_law_signs" "_law_signs" sSigns f fd) (ml : mg "len" = none) (mr : mg "range" = none) (GD : FnOk P w K mg base CX0 1 fD fdD ["_law_script", "_law_k", "_law_many"] (spDraw K)) (bD : Binds K fdD ["_law_script", "_law_k", "_law_many"] []) (kD : PySem.W.keepIn K (.ref fD) = true) (mD : mg "_law_draw" = some (.ref fD)) :
    FnOk P w K mg base CX0 2 f fd ["_law_script", "_law_k", "_law_line"] (spSigns K) := by
  refine F.ok scSigns (fun vs H Q E h => ?_) (fun cdv A0 outer s H vs Q E hr h => ?_)
  · obtain ⟨a, ns, kk, line, rfl, _⟩ := h
    rfl
  obtain ⟨a, ns, kk, line, rfl, hS, hn, k0, k1, hl, hc, k⟩ := h
  refine ⟨_, pss_cons (ps_set (i := 3) scSigns.nd rfl (.inl rfl) (pe_call GD hr rfl mD kD bD .nil pass0 (pa_cons (pv 0) (pa_cons (pv 1) (pa_cons (pe_op op_add (pe_callB call_len_str rfl ml boot_len (pa_cons (pv 2) pa_nil)) pe_int) pa_nil)))))
    (pss_cons (ps_setLc (i := 4) (own := [("_law_sign", 8)]) (g := gName 8) (tt := tYes) (te := tVar 8) rfl scSigns.nd rfl rfl (sw_true rfl rfl rfl (by decide +kernel)) (pi_str (pe_slice sl_str (pv 2) po_none (po_some (pv 3)))) (blkOk_by (N := nSigns) (sc := defScope sSigns) (by decide +kernel))
      (fun _ _ _ _ _ => pg_name (i := 8) scSigns.nd rfl (Or.inl rfl)) (fun _ _ _ _ _ => pts_nil) (fun _ _ _ _ _ => pv 8))
    (pss_cons (ps_set (i := 5) scSigns.nd rfl (.inl rfl) (pe_op op_add_str pe_str (pv 2)))
    (pss_cons (ps_set (i := 6) scSigns.nd rfl (.inl rfl) (pe_call GD hr rfl mD kD bD .nil pass0 (pa_cons (pv 0) (pa_cons (pe_op op_add (pv 1) pe_int) (pa_cons pe_int pa_nil)))))
    (Evl.pss_cut (ps_if (pt_cmpR op_gt (pe_op op_mod (pv 6) pe_int) pe_int (nomark _))
      (pss_one (ps_setLc (i := 4) (own := [("_law_sign", 8)]) (g := gName 8) (tt := tYes) (te := tVar 8) rfl scSigns.nd rfl rfl (sw_true rfl rfl rfl (by decide +kernel)) (pi_str (pe_slice sl_str (pv 2) po_none (po_some (pe_op op_add (pe_m1 PySem.F.slot_str_find PySem.F.type_str_find mt_find (pv 2) pe_str) pe_int)))) (blkOk_by (N := nSigns) (sc := defScope sSigns) (by decide +kernel))
        (fun _ _ _ _ _ => pg_name (i := 8) scSigns.nd rfl (Or.inl rfl)) (fun _ _ _ _ _ => pts_nil) (fun _ _ _ _ _ => pv 8))) pss_nil)
    (pss_cons (ps_if (pt_cmpR op_gt (pe_op op_mod (pv 6) pe_int) pe_int (nomark _))
      (pss_one (ps_ret (pe_op op_cat (pv 4) (pe_op op_rep (pe_lst (pa_cons (pe_ix ix_str (pv 5) (pe_call GD hr rfl mD kD bD .nil pass0 (pa_cons (pv 0) (pa_cons (pe_op op_add (pv 1) pe_int) (pa_cons pe_int pa_nil)))) (fun _ _ => rfl)) pa_nil)) pe_int)))) pss_nil)
    (pss_cons (ps_for PassesOwn.never rfl (pi_range1 rfl mr (pa_cons (pe_op op_fdiv (pv 6) pe_int) pa_nil)) (pg_name (i := 7) scSigns.nd rfl (.inl rfl))
      (pss_one (ps_expr (pe_bm PySem.F.plainAttrs_list PySem.F.slot_list_append PySem.F.type_list_append mt_append (pv 4) (pa_cons (pe_ix ix_str (pv 5)
        (pe_call GD hr rfl mD kD bD .nil pass0 (pa_cons (pv 0) (pa_cons (pe_op op_add (pe_op op_add (pv 1) pe_int) (pv 7)) (pa_cons (pe_callB call_len_str rfl ml boot_len (pa_cons (pv 5) pa_nil)) pa_nil)))) (fun _ _ => rfl)) pa_nil)))))
    (pss_one (ps_ret (pv 4))))))))), ?_⟩
  have hlz : (S line).length ≤ sizeLine := by rw [S_len]; exact sz _ (by omega)
  refine ⟨_, rfl, _, rfl, _, rfl, _, rfl, hlz, _, 1, rfl, rfl, a, ns, kk, _, rfl, hS, hn, by omega, by omega, by omega, fun r hr' => ?_⟩
  refine ⟨_, rfl, _, rfl, (r : Int), rfl, S line, rfl, hlz, S (line.take r), congrArg V.str (cut_to _ _), fun D hD => ?_⟩
  have ht : ∀ r, (line.take r).length ≤ 1000 ∧ cnt 40 (line.take r) + cnt 41 (line.take r) ≤ 18 := fun r => by
    have h1 := cnt_sub (x := 40) (List.take_sublist r line)
    have h2 := cnt_sub (x := 41) (List.take_sublist r line)
    have h3 : (line.take r).length ≤ line.length := (List.take_sublist r line).length_le
    omega
  refine lc_str (Pv := fun j H2 => H2 = upd H D (.lst (((line.take r).take j).map sgV))) rfl ?_ ?_
  · rintro j c H2 hj rfl
    have hjl := (List.getElem?_eq_some_iff.mp hj).1
    have := (ht r).1
    refine ⟨wipe_own _ 8 _, _, rfl, _, upd_same, by rw [List.length_map, List.length_take]; exact szl _ (by omega), ?_⟩
    show upd _ D _ = _
    rw [upd_upd, List.take_add_one (l := line.take r), hj]
    simp
    rfl
  rintro H1 rfl
  rw [List.take_length]
  obtain ⟨t1, t2⟩ := ht r
  have s1 := same_new hD (.lst ((line.take r).map sgV))
  have hD1 : upd H D (.lst ((line.take r).map sgV)) D = _ := upd_same
  generalize upd H D (.lst ((line.take r).map sgV)) = H1 at s1 hD1
  generalize line.take r = x1 at t1 t2 hD1
  refine ⟨_, rfl, S someL, S line, congrArg V.str some_str, rfl, (by rw [S_len, S_len, some_len]; exact sz _ (by omega)), ?_⟩
  rw [S_app]
  have hsl : (someL ++ line).length = 43 + line.length := by rw [List.length_append, some_len]
  have hzs : (S (someL ++ line)).length ≤ sizeLine := by rw [S_len]; exact sz _ (by omega)
  generalize someL ++ line = some_ at hsl hzs
  refine ⟨_, rfl, _, rfl, kk, 1, rfl, rfl, a, ns, kk + 1, 104, rfl, s1.seq hS, hn, by omega, by omega, by omega, fun way hway => ?_⟩
  refine ⟨fun σ' H' => ∃ (y8 : Option V) (D : Addr) (x : List Nat), σ' = [some (.ref a), some (.int kk), some (.str (S line)), some (.int (r : Int)), some (.ref D), some (.str (S some_)), some (nV way), none, y8] ∧ Same H H' ∧ H D = none ∧ H' D = some (.lst (x.map sgV)) ∧ x.length ≤ 1000 ∧ cnt 40 x + cnt 41 x ≤ 18, ?_, ?_⟩
  · refine ⟨_, rfl, (way : Int), 8, rfl, rfl, by omega, (way : Int) % 8, 5, rfl, rfl, _, rfl, ?_⟩
    by_cases h5 : (way : Int) % 8 > 5
    · refine ite_t (decide_eq_true h5) ?_
      have hge := find_ge (S line) ":"
      obtain ⟨m, hm⟩ : ∃ m : Nat, Txt.find (S line) ":" + 1 = (m : Int) := ⟨(Txt.find (S line) ":" + 1).toNat, by omega⟩
      refine ⟨_, rfl, _, rfl, ⟨_, rfl⟩, S line, ":", rfl, rfl, Txt.find (S line) ":", 1, rfl, rfl, (m : Int), congrArg V.int hm, S line, rfl, hlz, S (line.take m), congrArg V.str (cut_to _ _), fun D2 hD2 => ?_⟩
      refine lc_str (Pv := fun j H2 => H2 = upd H1 D2 (.lst (((line.take m).take j).map sgV))) rfl ?_ ?_
      · rintro j c H2 hj rfl
        have hjl := (List.getElem?_eq_some_iff.mp hj).1
        have := (ht m).1
        refine ⟨wipe_own _ 8 _, _, rfl, _, upd_same, by rw [List.length_map, List.length_take]; exact szl _ (by omega), ?_⟩
        show upd _ D2 _ = _
        rw [upd_upd, List.take_add_one (l := line.take m), hj]
        simp
        rfl
      rintro H2 rfl
      rw [List.take_length]
      exact ⟨_, D2, _, rfl, s1.trans (same_new hD2 _), none_of_same s1 hD2, upd_same, (ht m).1, (ht m).2⟩
    · refine ite_f (decide_eq_false h5) ?_
      exact ⟨_, D, _, rfl, s1, hD, hD1, t1, t2⟩
  clear hD1 hD t1 t2 s1
  rintro σ' H2 ⟨y8, D, x, rfl, s1, hD, hD1, t1, t2⟩
  refine ⟨_, rfl, (way : Int), 8, rfl, rfl, by omega, (way : Int) % 8, 4, rfl, rfl, _, rfl, ?_⟩
  by_cases h4 : (way : Int) % 8 > 4
  · refine ite_t (decide_eq_true h4) ?_
    refine ⟨_, rfl, _, rfl, _, rfl, _, rfl, kk, 2, rfl, rfl, a, ns, kk + 2, 36, rfl, s1.seq hS, hn, by omega, by omega, by omega, fun r3 hr3 => ?_⟩
    have hr4 : r3 < some_.length := by omega
    refine ⟨S some_, (r3 : Int), some_[r3], rfl, rfl, hzs, atI_nat (List.getElem?_eq_getElem hr4), (by show 1 ≤ sizeLine; decide), fun p1 hp1 => ?_⟩
    have sa := same_new hp1 (.lst [V.str ⟨#[some_[r3]]⟩])
    refine ⟨p1, 62, _, rfl, rfl, upd_same, by decide, by decide, (sz _ (by show 1 * 62 ≤ 100000; omega)), fun p2 hp2 => ?_⟩
    have sb := same_new hp2 (.lst (List.replicate (62 : Int).toNat [V.str ⟨#[some_[r3]]⟩]).flatten)
    have el : (List.replicate (62 : Int).toNat [V.str ⟨#[some_[r3]]⟩]).flatten = (List.replicate 62 some_[r3]).map sgV := rfl
    rw [el] at sb ⊢
    refine ⟨D, p2, _, _, rfl, rfl, sb _ _ (sa _ _ hD1), upd_same, (by rw [List.length_map, List.length_map, List.length_replicate]; exact sz _ (by omega)), fun p3 hp3 => ?_⟩
    refine k p3 _ (x ++ List.replicate 62 some_[r3]) (((s1.trans sa).trans sb).trans (same_new hp3 _)) (none_of_same ((s1.trans sa).trans sb) hp3) (by rw [upd_same, List.map_append]) (by simp; omega) ?_
    rw [cnt_app, cnt_app]
    have := cnt_rep 0 some_[r3] 62
    omega
  · refine ite_f (decide_eq_false h4) ?_
    refine ⟨_, rfl, (way : Int), 8, rfl, rfl, ⟨by decide, by decide⟩, _, rfl, by omega, by omega, ?_⟩
    refine for_range (lo := 0) (n := ((way : Int) / 8).toNat) (fun j σ H' => ∃ (y7 : Option V) (x : List Nat), σ = [some (.ref a), some (.int kk), some (.str (S line)), some (.int (r : Int)), some (.ref D), some (.str (S some_)), some (nV way), y7, y8] ∧ Same H H' ∧ H' D = some (.lst (x.map sgV)) ∧ x.length ≤ 1000 + j ∧ cnt 40 x + cnt 41 x ≤ 18 + j)
      ⟨none, x, rfl, s1, hD1, t1, t2⟩ ?_ ?_
    · rintro j σ H3 hj ⟨y7, x, rfl, s3, hD3, t3, t4⟩
      have hj13 : j < 13 := by omega
      refine ⟨_, rfl, .inl ⟨rfl, _, SqL.of hD3⟩, _, rfl, _, rfl, _, rfl, kk, 2, rfl, rfl, _, rfl, kk + 2, (0 + (j : Int)), rfl, rfl, _, rfl, _, rfl, hzs, a, ns, kk + 2 + (0 + (j : Int)), _, rfl, s3.seq hS, hn, by omega, by omega, (by rw [S_len]; omega), fun r3 hr3 => ?_⟩
      rw [S_len] at hr3
      have hr4 : r3 < some_.length := by omega
      refine ⟨S some_, (r3 : Int), some_[r3], rfl, rfl, hzs, atI_nat (List.getElem?_eq_getElem hr4), D, _, _, rfl, rfl, hD3, (by rw [List.length_map]; exact szl _ (by omega)), ?_⟩
      refine ⟨_, x ++ [some_[r3]], rfl, same_upd s3 hD _, (by rw [upd_same, List.map_append]; rfl), (by simp; omega), ?_⟩
      rw [cnt_app, cnt_app]
      have := cnt_one 0 some_[r3]
      omega
    · rintro σ H3 ⟨y7, x, rfl, s3, hD3, t3, t4⟩
      exact ⟨_, rfl, k D H3 x s3 hD hD3 (by omega) (by omega)⟩
end
end Wd
namespace Wd
open PySem L2
open TL (tl tl_append ext_tl mk_tl partition_app partition_none len_tl)
theorem take_sts {M : Mach} (c : Cfg) (x : Nat) : (take M c x).sts.length ≤ c.sts.length + 1 := by
  unfold take
  split
  · simp
  · split
    · split
      · rename_i h; rw [h]; simp
      · simp
      · rename_i h; rw [h]; simp
    · split <;> simp
section
variable {P : Program} {w : World} {K : PySem.W.Frag} {mg : Str → Option Value} {base : Heap}
/-! ### _law_begun -/
def spBegun (K : PySem.W.Frag) (C : Addr) : Sp := fun vs H Q _ => ∃ (A : RA) (M : Mach) (p : Addr) (x : List Nat) (t : Tr), vs = [.ref A.r, .ref p, .str (S t.text), .bl (decide (t.state M ∈ M.good))] ∧ Fine M init ∧ RdAt C M A H init ∧ t.Ok ∧ t.text.length ≤ 1000 ∧
  fr A H p = some (.lst (x.map sgV)) ∧ x.length ≤ 2000 ∧
  ∀ (a : List Nat) (c : Cfg) (H' : Hp), Same (fr A H) (fr A H') → RdAt C M A H' c → run M init a = some c → a.Sublist x → c.sts.length ≤ a.length → Fine M c → Q (.str (S a)) H'
abbrev nBegun : List Str := ["_law_reader", "_law_signs_here", "_law_line", "_law_whole", "_law_sofar", "_law_sign"]
theorem scBegun : FnScope nBegun ["_law_reader", "_law_signs_here", "_law_line", "_law_whole"] (defScope sBegun) := ⟨rfl, rfl, rfl, by decide +kernel, rfl, by decide +kernel, by decide +kernel⟩
theorem ok_begun {C f fF fT : Addr} {fd fdF fdT : FuncData} (F : Fun K "_law_begun" "_law_begun" sBegun f fd) (T : Txt K mg C)
    (GF : FnOk P w K mg base CX0 4 fF fdF ["self", "sign"] (spFits K C)) (bF : Binds K fdF ["self", "sign"] []) (mF : Meth K C "fits" fF)
    (GT : FnOk P w K mg base CX0 5 fT fdT ["self", "sign"] (spTake K C)) (bT : Binds K fdT ["self", "sign"] []) (mT : Meth K C "take" fT) :
    FnOk P w K mg base CX0 6 f fd ["_law_reader", "_law_signs_here", "_law_line", "_law_whole"] (spBegun K C) := by
  refine F.ok scBegun (fun vs H Q E h => ?_) (fun cdv A0 outer s H vs Q E hr h => ?_)
  · obtain ⟨A, M, p, x, t, rfl, _⟩ := h
    rfl
  obtain ⟨A, M, p, x, t, rfl, fn0, R0, tok, htl, hp, hxl, k⟩ := h
  refine ⟨_, pss_cons (ps_set (i := 4) scBegun.nd rfl (.inl rfl) pe_str)
    (pss_cons (ps_for PassesOwn.never rfl (pi_list (pv 1)) (pg_name (i := 5) scBegun.nd rfl (.inl rfl))
      (pss_one (ps_if (pt_val (pe_meth (pv 0) T.cl mF GF (hr.mono (by decide)) bF .nil pass0 (pa_cons (pv 5) pa_nil)))
        (pss_cons (ps_expr (pe_meth (pv 0) T.cl mT GT hr bT .nil pass0 (pa_cons (pv 5) pa_nil)))
        (pss_one (ps_set (i := 4) scBegun.nd rfl (.inl rfl) (pe_op op_add_str (pv 4) (pv 5)))))
        (pss_one (ps_if (PW.pt (pw_and (pt_val (pv 3)) (pw_and1 (pt_cmpR op_eq (pe_slice sl_str (pv 2) po_none (po_some (pe_op op_add (pe_callB call_len_str rfl T.len boot_len (pa_cons (pv 4) pa_nil)) pe_int))) (pe_op op_add_str (pv 4) (pv 5)) (nomark _)))))
          (pss_one (ps_ret pe_non)) pss_nil)))))
    (pss_one (ps_ret (pv 4)))), ?_⟩
  have o := fn0.ok
  have hlz : (S t.text).length ≤ sizeLine := by rw [S_len]; exact sz _ (by omega)
  refine ⟨_, rfl, p, rfl, ⟨_, SqL.of (mns_same _ _ _ _ hp)⟩, for_list (K := K) (a := p) (xs := x.map sgV)
    (fun j σ H' => ∃ (y5 : Option V) (hd : Str) (a : List Nat) (c : Cfg), σ = [some (.ref A.r), some (.ref p), some (.str (S t.text)), some (.bl (decide (t.state M ∈ M.good))), some (.str hd), y5] ∧ hd = S a ∧ Same (fr A H) (fr A H') ∧ RdAt C M A H' c ∧ run M init a = some c ∧ a.Sublist (x.take j) ∧ c.sts.length ≤ a.length ∧ Fine M c)
    ⟨none, _, [], init, rfl, str_nil, Same.refl _, R0, rfl, List.nil_sublist _, Nat.le_refl _, fn0⟩ ?_ ?_ ?_⟩
  · rintro j σ H' _ ⟨y5, hd, a, c, _, _, s1, _⟩
    exact SqL.of (mns_same _ _ _ _ (s1 _ _ hp))
  · rintro j v σ H1 hj ⟨y5, hd, a, c, rfl, rfl, s1, R, hrun, hsub, hsl, fn⟩
    rw [List.getElem?_map] at hj
    obtain ⟨y, hy, rfl⟩ := Option.map_eq_some_iff.mp hj
    have hyl := (List.getElem?_eq_some_iff.mp hy).1
    have hal : a.length ≤ j := by
      have := hsub.length_le
      rw [List.length_take] at this
      omega
    have etk : x.take (j + 1) = x.take j ++ [y] := by rw [List.take_add_one, hy]; rfl
    obtain ⟨iv, hob, _⟩ := R.ob
    refine ⟨_, rfl, A.r, A.dx, _, rfl, hob, lk_m4 _ _ _ _ _, _, rfl, A, M, c, y, rfl, fn, R, fun H2 s12 R2 => ⟨_, rfl, ?_⟩⟩
    obtain ⟨iv2, hob2, _⟩ := R2.ob
    have s2 := s1.trans s12
    cases hf : fits M c y with
    | true =>
      refine ⟨_, rfl, A.r, A.dx, _, rfl, hob2, lk_m5 _ _ _ _ _, _, rfl, A, M, c, y, rfl, fn, (by omega), hf, R2, fun H3 s23 R3 => ?_⟩
      refine ⟨_, rfl, _, rfl, S a, S [y], rfl, rfl, (by rw [S_len, S_len]; exact sz _ (by simp; omega)), ?_⟩
      refine ⟨_, _, a ++ [y], take M c y, rfl, S_app _ _, s2.trans s23, R3, run_snoc hrun hf, ?_, ?_, fn.take hf⟩
      · rw [etk]
        exact List.Sublist.append hsub (List.Sublist.refl _)
      · have := take_sts (M := M) c y
        simp
        omega
    | false =>
      have keep : ∀ σ H', σ = [some (.ref A.r), some (.ref p), some (.str (S t.text)), some (.bl (decide (t.state M ∈ M.good))), some (.str (S a)), some (sgV y)] → H' = H2 → ∃ (y5 : Option V) (hd : Str) (a : List Nat) (c : Cfg), σ = [some (.ref A.r), some (.ref p), some (.str (S t.text)), some (.bl (decide (t.state M ∈ M.good))), some (.str hd), y5] ∧ hd = S a ∧ Same (fr A H) (fr A H') ∧ RdAt C M A H' c ∧ run M init a = some c ∧ a.Sublist (x.take (j + 1)) ∧ c.sts.length ≤ a.length ∧ Fine M c :=
        fun σ H' e1 e2 => by
          subst e1; subst e2
          refine ⟨_, _, a, c, rfl, rfl, s2, R2, hrun, ?_, hsl, fn⟩
          rw [etk]
          exact hsub.trans (List.sublist_append_left _ _)
      refine ⟨_, rfl, _, rfl, ?_⟩
      by_cases hg : t.state M ∈ M.good
      · refine ite_t (decide_eq_true hg) ?_
        refine ⟨_, rfl, _, rfl, _, rfl, (by rw [S_len]; exact sz _ (by omega)), _, 1, rfl, rfl, ((a.length + 1 : Nat) : Int), congrArg V.int (by rw [S_len]; rfl), S t.text, rfl, hlz, ?_⟩
        refine ⟨_, rfl, _, rfl, S a, S [y], rfl, rfl, (by rw [S_len, S_len]; exact sz _ (by simp; omega)), rfl, _, rfl, ?_⟩
        refine ite_f ?_ (keep _ _ rfl rfl)
        refine decide_eq_false fun e => ?_
        have e : V.str (cutS (S t.text) none (some ((a.length + 1 : Nat) : Int))) = V.str (S a ++ S [y]) := e
        rw [cut_to, S_app] at e
        have e := V_str_iff.mp e
        have e2 : t.text = a ++ y :: t.text.drop (a.length + 1) := by
          have := List.take_append_drop (a.length + 1) t.text
          rw [e] at this
          rw [← this]
          simp
        have := fits_text o tok hg e2 hrun
        rw [hf] at this
        cases this
      · refine ite_f (decide_eq_false hg) ?_
        exact keep _ _ rfl rfl
  · rintro σ H1 ⟨y5, hd, a, c, rfl, rfl, s1, R, hrun, hsub, hsl, fn⟩
    refine ⟨_, rfl, k a c H1 s1 R hrun ?_ hsl fn⟩
    have : x.take (x.map sgV).length = x := by rw [List.length_map]; exact List.take_length
    rw [this] at hsub
    exact hsub
end
end Wd
namespace Wd
open PySem L2
open TL (tl tl_append ext_tl mk_tl partition_app partition_none len_tl)
/-! ### another good list -/
def Mach.wg (M : Mach) (G : List Nat) : Mach := { M with good := G }
mutual
theorem state_good (M : Mach) (G : List Nat) : ∀ t : Tr, t.state (M.wg G) = t.state M
  | .nd t w ks => by
    simp only [Tr.state]
    rw [stateL_good M G _ ks]
    rfl
theorem stateL_good (M : Mach) (G : List Nat) : ∀ (s : Nat) (ts : List Tr), stateL (M.wg G) s ts = stateL M s ts
  | s, [] => by simp only [stateL]
  | s, t :: ts => by
    simp only [stateL]
    rw [state_good M G t]
    exact stateL_good M G _ ts
end
theorem wg_ok {M : Mach} (o : M.Ok) {G : List Nat} (h : ∀ s ∈ G, 1 ≤ s ∧ s < M.n) : (M.wg G).Ok :=
  ⟨o.n1, o.rl, o.rw_, o.z1, o.z2, o.sl, o.snd, h⟩
theorem ints_nat : ∀ {ns : List Int}, (∀ i ∈ ns, 0 ≤ i) → ns.map V.int = (ns.map Int.toNat).map nV
  | [], _ => rfl
  | i :: ns, h => by
    have h0 := h i (by simp)
    rw [List.map_cons, List.map_cons, List.map_cons, ints_nat fun j hj => h j (by simp [hj])]
    show V.int i :: _ = V.int ((i.toNat : Nat) : Int) :: _
    rw [show ((i.toNat : Nat) : Int) = i by omega]
/-! ### the starts as a dict -/
def kvsOf (st : List (List Nat × Nat)) : List (Key × V) := st.map fun p => ((Sum.inr (S p.1) : Key), nV p.2)
theorem inr_S {a b : List Nat} : ((Sum.inr (S a) : Key) = Sum.inr (S b)) ↔ a = b := ⟨fun h => S_inj (Sum.inr.inj h), fun h => by rw [h]⟩
theorem putK_new {acc : List (Key × V)} {k : Key} {v : V} (h : ∀ p ∈ acc, p.1 ≠ k) : putK acc k v = acc ++ [(k, v)] := by
  unfold putK
  rw [if_neg]
  intro e
  obtain ⟨p, hp, hk⟩ := List.any_eq_true.mp e
  exact h p hp (of_decide_eq_true hk)
theorem merge_new : ∀ {more acc : List (Key × V)}, (more.map (·.1)).Nodup → (∀ p ∈ acc, ∀ q ∈ more, p.1 ≠ q.1) → mergeK acc more = acc ++ more
  | [], acc, _, _ => (List.append_nil _).symm
  | kv :: more, acc, hn, hd => by
    show mergeK (putK acc kv.1 kv.2) more = _
    rw [putK_new fun p hp => hd p hp kv (by simp)]
    rw [List.map_cons, List.nodup_cons] at hn
    rw [merge_new hn.2 fun p hp q hq => ?_]
    · rw [List.append_assoc]
      rfl
    · rcases List.mem_append.mp hp with hp | hp
      · exact hd p hp q (by simp [hq])
      · rw [List.mem_singleton.mp hp]
        intro e
        exact hn.1 (by rw [e]; exact List.mem_map_of_mem hq)
theorem kvs_keys (st : List (List Nat × Nat)) (h : (st.map (·.1)).Nodup) : ((kvsOf st).map (·.1)).Nodup := by
  unfold kvsOf
  rw [List.map_map]
  have : ((fun x : Key × V => x.1) ∘ fun p : List Nat × Nat => ((Sum.inr (S p.1) : Key), nV p.2)) = (fun l : List Nat => (Sum.inr (S l) : Key)) ∘ (fun p : List Nat × Nat => p.1) := rfl
  rw [this, ← List.map_map]
  exact List.Pairwise.map _ (fun a b hab e => hab (inr_S.mp e)) h
theorem val_kvs : ∀ (st : List (List Nat × Nat)) (l : List Nat), valV (kvsOf st) (Sum.inr (S l)) = ((st.find? fun ls => ls.1 == l).map (·.2)).map nV
  | [], l => rfl
  | p :: st, l => by
    show valV (((Sum.inr (S p.1) : Key), nV p.2) :: kvsOf st) _ = _
    by_cases h : p.1 = l
    · rw [valV_pos (inr_S.mpr h), List.find?_cons, show (p.1 == l) = true by rw [h]; simp]
      rfl
    · rw [valV_neg (fun e => h (inr_S.mp e)), val_kvs st l, List.find?_cons, show (p.1 == l) = false by simpa using h]
theorem dict_of {H : Hp} {d : Addr} {M : Mach} (o : M.Ok) (h : H d = some (.dK (mergeK [] (kvsOf M.starts)))) : DictAt H d M := by
  rw [merge_new (kvs_keys _ o.snd) (fun p hp => by cases hp), List.nil_append] at h
  refine ⟨_, h, fun l => ?_⟩
  rw [val_kvs]
  rfl
theorem paired_of {K : PySem.W.Frag} {H : Hp} : ∀ {as : List Addr} {st : List (List Nat × Nat)}, as.length = st.length → (∀ (i : Nat) (b : Addr) (p : List Nat × Nat), as[i]? = some b → st[i]? = some p → H b = some (.tup [.str (S p.1), nV p.2])) →
    Paired (fun p kv => SqT K H p [kV kv.1, kv.2]) as (kvsOf st)
  | [], [], _, _ => .nil
  | a :: as, p :: st, hl, h => .cons (SqT.of (h 0 a p rfl rfl)) (paired_of (by simpa using hl) fun i b q e1 e2 => h (i + 1) b q e1 e2)
  | [], _ :: _, hl, _ => by cases hl
  | _ :: _, [], hl, _ => by cases hl
theorem MachAt.mem {K : PySem.W.Frag} {H : Hp} {a : Addr} {M : Mach} (h : MachAt K H a M) : ∃ (aS aT aG : Addr) (as : List Addr), SqT K H a [.ref aS, .ref aT, .ref aG] ∧ H aS = some (.lst (as.map V.ref)) ∧ Paired (fun p kv => SqT K H p [kV kv.1, kv.2]) as (kvsOf M.starts) ∧ RowsAt H aT M.rows ∧ H aG = some (.lst (M.good.map nV)) ∧ StartsAt H aS M.starts := by
  obtain ⟨aS, aT, aG, h1, ⟨as, h2, h3, h4⟩, h5, h6⟩ := h
  exact ⟨aS, aT, aG, as, h1, h2, paired_of h3 h4, h5, h6, as, h2, h3, h4⟩
theorem paired_mono {K : PySem.W.Frag} {H H' : Hp} (s : Same H H') : ∀ {as : List Addr} {kvs : List (Key × V)}, Paired (fun p kv => SqT K H p [kV kv.1, kv.2]) as kvs → Paired (fun p kv => SqT K H' p [kV kv.1, kv.2]) as kvs
  | _, _, .nil => .nil
  | _, _, .cons h t => .cons (s.t h) (paired_mono s t)
theorem cnt_out {x : Nat} {l : List Nat} (h : x ∉ l) : cnt x l = 0 := List.count_eq_zero.mpr h
theorem cnt_wtext {x : Nat} (h : x = 40 ∨ x = 41) {w : List Nat} (hw : ∀ c ∈ w, c ∈ wsigns) : cnt x (wtext w) = 0 := by
  refine cnt_out fun hm => ?_
  unfold wtext at hm
  split at hm
  · cases hm
  · rcases List.mem_cons.mp hm with e | hm
    · omega
    · have := wsign_ne (hw x hm)
      omega
theorem cnt_small {x : Nat} (h : x = 40 ∨ x = 41) {w : List Nat} (hw : ∀ c ∈ w, c ∈ smalls) : cnt x w = 0 := by
  refine cnt_out fun hm => ?_
  have := small_ne (hw x hm)
  omega
mutual
theorem text_cnt : ∀ t : Tr, t.Ok → cnt 40 t.text = t.nodes ∧ cnt 41 t.text = t.nodes
  | .nd t w ks, h => by
    simp only [Tr.Ok] at h
    obtain ⟨⟨_, _, h1⟩, ⟨_, h2⟩, h3⟩ := h
    obtain ⟨q1, q2⟩ := textL_cnt ks h3
    simp only [Tr.text, Tr.nodes, cnt_app, cnt_small (.inl rfl) h1, cnt_small (.inr rfl) h1, cnt_wtext (.inl rfl) h2, cnt_wtext (.inr rfl) h2, q1, q2]
    have e1 : cnt 40 [40] = 1 := by decide
    have e2 : cnt 41 [40] = 0 := by decide
    have e3 : cnt 40 [41] = 0 := by decide
    have e4 : cnt 41 [41] = 1 := by decide
    omega
theorem textL_cnt : ∀ ts : List Tr, OkL ts → cnt 40 (textL ts) = nodesL ts ∧ cnt 41 (textL ts) = nodesL ts
  | [], _ => ⟨by simp only [textL, nodesL]; rfl, by simp only [textL, nodesL]; rfl⟩
  | t :: ts, h => by
    simp only [OkL] at h
    obtain ⟨q1, q2⟩ := text_cnt t h.1
    obtain ⟨q3, q4⟩ := textL_cnt ts h.2
    simp only [textL, nodesL, cnt_app]
    omega
end
theorem text_nodes_cnt (t : Tr) (h : t.Ok) : cnt 40 t.text + cnt 41 t.text = 2 * t.nodes := by
  obtain ⟨h1, h2⟩ := text_cnt t h
  omega
theorem keepT_fr {C : Addr} {M : Mach} {A : RA} {H H' : Hp} {c : Cfg} (R : RdAt C M A H c) (s : Same (fr A H) (fr A H')) : keepT H H' := fun b u e =>
  mns_same _ _ _ _ (s _ _ (fr_out (R.ntup e) e))
/-! ### each bracket that opens has signs of its own ahead of it -/
theorem isHead_ne {h : List Nat} (e : isHead h = true) : h ≠ [] := fun z => by
  rw [z] at e
  have := (isHead_ok e).1.1
  simp [part] at this
theorem prun_heads : ∀ (l : List Nat) (s z : PS), prun s l = some z → 2 * cnt 40 l + cnt 41 l ≤ l.length + (if s.head = [] then 0 else 1)
  | [], s, z, _ => by simp [cnt]
  | x :: l, s, z, h => by
    have h : (pstep s x).bind (fun s' => prun s' l) = some z := h
    obtain ⟨s', e, h⟩ := Option.bind_eq_some_iff.mp h
    unfold pstep at e
    obtain ⟨q, e1, e2⟩ := Option.bind_eq_some_iff.mp e
    have e3 : q = s' := by
      have e2 : (if pbad q = true then none else some q) = some s' := e2
      split at e2
      · cases e2
      · exact Option.some.inj e2
    subst e3
    have ih := prun_heads l q z h
    have hc : ∀ y, cnt y (x :: l) = cnt y l + (if x = y then 1 else 0) := fun y => by
      unfold cnt
      rw [List.count_cons]
      by_cases hxy : x = y <;> simp [hxy]
    rw [hc, hc, List.length_cons]
    rcases pstep1_cases e1 with ⟨rfl, hh, rfl⟩ | ⟨rfl, h0, hs, ks, r, rs, rfl, rfl⟩ | ⟨h1, h2, rfl⟩
    · rw [if_neg (isHead_ne hh)]
      rw [if_pos rfl] at ih
      simp only [if_pos, show ¬ ((40 : Nat) = 41) by decide, if_false]
      omega
    · rw [if_pos rfl] at ih ⊢
      simp only [if_pos, show ¬ ((41 : Nat) = 40) by decide, if_false]
      omega
    · rw [if_neg h1, if_neg h2]
      have : (if s.head ++ [x] = [] then 0 else 1) ≤ 1 := by split <;> omega
      have ih : 2 * cnt 40 l + cnt 41 l ≤ l.length + (if s.head ++ [x] = [] then 0 else 1) := ih
      omega
theorem parsed_few {a e : List Nat} {t : Tr} (h : Parsed (a ++ e) t) (ha : cnt 40 a + cnt 41 a ≤ 80) (he : e.length ≤ 400) : t.nodes ≤ 187 := by
  obtain ⟨n1, n2⟩ := parsed_nodes h
  rw [cnt_app] at n1 n2
  have h : prun pinit (a ++ e) = some _ := h
  rw [prun_app] at h
  obtain ⟨s, _, h2⟩ := Option.bind_eq_some_iff.mp h
  have := prun_heads e s _ h2
  have : (if s.head = [] then 0 else 1) ≤ 1 := by split <;> omega
  omega
theorem tr_ref {H : Hp} {v : V} {t : Tr} (h : TrAt H v t) : ∃ a, v = .ref a := by
  cases t with
  | nd t w ks =>
    simp only [TrAt] at h
    obtain ⟨a, _, _, e, _⟩ := h
    exact ⟨a, e⟩
end Wd
namespace Wd
open PySem L2
open TL (tl tl_append ext_tl mk_tl partition_app partition_none len_tl)
theorem bootDict : bootBuiltins "dict" = some (.type "dict") := by decide +kernel
section
variable {P : Program} {w : World} {K : PySem.W.Frag} {mg : Str → Option Value} {base : Heap}
/-! ### law -/
def spLaw (K : PySem.W.Frag) : Sp := fun vs H Q _ => ∃ (a : Addr) (ns : List Int), vs = [.ref a] ∧ SqL K H a (ns.map V.int) ∧ ns.length ≤ 63 ∧ ∀ H', Q (.bl true) H'
abbrev nLaw : List Str := ["_law_script", "_law_labels_here", "_law_size", "_law_machine_here", "_law_k", "_law_tree_here", "_law_state_here", "_law_line", "_law_reader", "_law_sofar", "_law_left", "_law_many", "_law_ending", "_law_j", "_law_sign", "_law_whole"]
theorem scLaw : FnScope nLaw ["_law_script"] (defScope sLaw) := ⟨rfl, rfl, rfl, by decide +kernel, rfl, by decide +kernel, by decide +kernel⟩
/-- the defs the law calls, with their promises -/
structure Calls (P : Program) (w : World) (K : PySem.W.Frag) (mg : Str → Option Value) (base : Heap) (x : Str) (ps : List Str) (n : Nat) (sp : Sp) (f : Addr) (fd : FuncData) : Prop where
  ok : FnOk P w K mg base CX0 n f fd ps sp
  bd : Binds K fd ps []
  kp : PySem.W.keepIn K (.ref f) = true
  mg_ : mg x = some (.ref f)
structure Mets (P : Program) (w : World) (K : PySem.W.Frag) (mg : Str → Option Value) (base : Heap) (C : Addr) (x : Str) (ps : List Str) (n : Nat) (sp : Sp) (f : Addr) (fd : FuncData) : Prop where
  ok : FnOk P w K mg base CX0 n f fd ps sp
  bd : Binds K fd ps []
  mt : Meth K C x f
theorem ok_law {C f fI fLs fD fM fTr fS fTx fSi fB fP fTk fLf fHi : Addr} {fd fdI fdLs fdD fdM fdTr fdS fdTx fdSi fdB fdP fdTk fdLf fdHi : FuncData} (F : Fun K "law" "law" sLaw f fd) (T : Txt K mg C) (mgC : mg "Reader" = some (.ref C)) (MK : Mk K C fI)
    (GI : FnOk P w K mg base CX0 5 fI fdI ["self", "machine"] (spInit K C)) (bI : Binds K fdI ["self", "machine"] [])
    (md : mg "dict" = none) (ms : mg "sorted" = none)
    (cLs : Calls P w K mg base "_law_labels" ["_law_script", "_law_k"] 2 (spLabels K) fLs fdLs)
    (cD : Calls P w K mg base "_law_draw" ["_law_script", "_law_k", "_law_many"] 1 (spDraw K) fD fdD)
    (cM : Calls P w K mg base "_law_machine" ["_law_script", "_law_k", "_law_size", "_law_labels_here"] 2 (spMachine K) fM fdM)
    (cTr : Calls P w K mg base "_law_tree" ["_law_script", "_law_k", "_law_many", "_law_labels_here"] 2 (spTree K) fTr fdTr)
    (cS : Calls P w K mg base "_law_state" ["_law_starts", "_law_steps", "_law_tree_here"] 190 (spState 190) fS fdS)
    (cTx : Calls P w K mg base "_law_text" ["_law_tree_here"] 9 (spText 9) fTx fdTx)
    (cSi : Calls P w K mg base "_law_signs" ["_law_script", "_law_k", "_law_line"] 2 (spSigns K) fSi fdSi)
    (cB : Calls P w K mg base "_law_begun" ["_law_reader", "_law_signs_here", "_law_line", "_law_whole"] 6 (spBegun K C) fB fdB)
    (cP : Calls P w K mg base "_law_parsed" ["_law_line"] 2 spParsed fP fdP)
    (mTk : Mets P w K mg base C "take" ["self", "sign"] 5 (spTake K C) fTk fdTk)
    (mLf : Mets P w K mg base C "left" ["self"] 4 (spLeft K C) fLf fdLf)
    (mHi : Mets P w K mg base C "hint" ["self"] 5 (spHint K C) fHi fdHi) :
    FnOk P w K mg base CX0 191 f fd ["_law_script"] (spLaw K) := by
  refine F.ok scLaw (fun vs H Q E h => ?_) (fun cdv A0 outer s H vs Q E hr h => ?_)
  · obtain ⟨a, ns, rfl, _⟩ := h
    rfl
  obtain ⟨a, ns, rfl, hS, hn, k⟩ := h
  have hr1 : Room 1 _ := hr.mono (by decide)
  have hr2 : Room 2 _ := hr.mono (by decide)
  have hr4 : Room 4 _ := hr.mono (by decide)
  have hr5 : Room 5 _ := hr.mono (by decide)
  have hr6 : Room 6 _ := hr.mono (by decide)
  have hr9 : Room 9 _ := hr.mono (by decide)
  refine ⟨_, pss_cons (ps_set (i := 1) scLaw.nd rfl (.inl rfl) (pe_call cLs.ok hr2 rfl cLs.mg_ cLs.kp cLs.bd .nil pass0 (pa_cons (pv 0) (pa_cons pe_int pa_nil))))
    (pss_cons (ps_set (i := 2) scLaw.nd rfl (.inl rfl) (pe_op op_add pe_int (pe_call cD.ok hr1 rfl cD.mg_ cD.kp cD.bd .nil pass0 (pa_cons (pv 0) (pa_cons pe_int (pa_cons pe_int pa_nil))))))
    (pss_cons (ps_set (i := 3) scLaw.nd rfl (.inl rfl) (pe_call cM.ok hr2 rfl cM.mg_ cM.kp cM.bd .nil pass0 (pa_cons (pv 0) (pa_cons pe_int (pa_cons (pv 2) (pa_cons (pv 1) pa_nil))))))
    (Evl.pss_cut (ps_set (i := 4) scLaw.nd rfl (.inl rfl) (pe_op op_add (pe_op op_add (pe_op op_add pe_int (pe_callB call_len_seq rfl T.len boot_len (pa_cons (pv 1) pa_nil))) (pe_op op_mul (pe_op op_sub (pv 2) pe_int) (pe_op op_sub (pv 2) pe_int))) (pv 2)))
    (pss_cons (ps_set (i := 5) scLaw.nd rfl (.inl rfl) (pe_call cTr.ok hr2 rfl cTr.mg_ cTr.kp cTr.bd .nil pass0 (pa_cons (pv 0) (pa_cons (pv 4) (pa_cons (pe_op op_add pe_int (pe_call cD.ok hr1 rfl cD.mg_ cD.kp cD.bd .nil pass0 (pa_cons (pv 0) (pa_cons (pe_op op_add (pv 4) pe_int) (pa_cons pe_int pa_nil))))) (pa_cons (pv 1) pa_nil))))))
    (pss_cons (ps_set (i := 6) scLaw.nd rfl (.inl rfl) (pe_call cS.ok hr rfl cS.mg_ cS.kp cS.bd .nil pass0 (pa_cons (pe_callTy (call_dictP rfl) rfl md bootDict (pa_cons (pe_ix ix_tup (pv 3) pe_int (fun _ _ => rfl)) pa_nil)) (pa_cons (pe_ix ix_tup (pv 3) pe_int (fun _ _ => rfl)) (pa_cons (pv 5) pa_nil)))))
    (Evl.pss_cut (ps_if (PW.pt (pw_and (pt_cmpR op_ne (pv 6) pe_int (nomark _)) (pw_and (pt_cmpR op_gt (pe_op op_fdiv (pe_call cD.ok hr1 rfl cD.mg_ cD.kp cD.bd .nil pass0 (pa_cons (pv 0) (pa_cons pe_int (pa_cons pe_int pa_nil)))) pe_int) pe_int (nomark _))
        (pw_and1 (pt_cmpR op_notIn_seq (pv 6) (pe_ix ix_tup (pv 3) pe_int (fun _ _ => rfl)) rfl)))))
      (pss_one (ps_set (i := 3) scLaw.nd rfl (.inl rfl) (pe_tup (pa_cons (pe_ix ix_tup (pv 3) pe_int (fun _ _ => rfl)) (pa_cons (pe_ix ix_tup (pv 3) pe_int (fun _ _ => rfl))
        (pa_cons (pe_callB cr_sorted rfl ms (by decide +kernel) (pa_cons (pe_op op_cat (pe_ix ix_tup (pv 3) pe_int (fun _ _ => rfl)) (pe_lst (pa_cons (pv 6) pa_nil))) pa_nil)) pa_nil)))))) pss_nil)
    (pss_cons (ps_set (i := 7) scLaw.nd rfl (.inl rfl) (pe_call cTx.ok hr9 rfl cTx.mg_ cTx.kp cTx.bd .nil pass0 (pa_cons (pv 5) pa_nil)))
    (pss_cons (ps_set (i := 8) scLaw.nd rfl (.inl rfl) (pe_make MK GI hr6 rfl mgC bI .nil pass0 (pa_cons (pv 3) pa_nil)))
    (pss_cons (ps_set (i := 9) scLaw.nd rfl (.inl rfl) (pe_call cB.ok hr6 rfl cB.mg_ cB.kp cB.bd .nil pass0 (pa_cons (pv 8) (pa_cons (pe_call cSi.ok hr2 rfl cSi.mg_ cSi.kp cSi.bd .nil pass0 (pa_cons (pv 0) (pa_cons (pe_op op_add (pv 4) pe_int) (pa_cons (pv 7) pa_nil))))
        (pa_cons (pv 7) (pa_cons (pe_cmpR op_in_seq (pv 6) (pe_ix ix_tup (pv 3) pe_int (fun _ _ => rfl)) rfl) pa_nil))))))
    (pss_cons (ps_if (pt_cmpR op_isN (pv 9) pe_non (nomark _)) (pss_one (ps_ret pe_bl)) pss_nil)
    (pss_cons (ps_set (i := 10) scLaw.nd rfl (.inl rfl) (pe_meth0 (pv 8) T.cl mLf.mt mLf.ok hr4 mLf.bd .nil pass0))
    (pss_cons (ps_if (pt_cmpR op_isN (pv 10) pe_non (nomark _)) (pss_one (ps_ret (pe_and (pe_cmpR op_eq (pv 9) pe_str (nomark _)) (pe_and (pe_cmpR op_eq (pe_meth0 (pv 8) T.cl mHi.mt mHi.ok hr5 mHi.bd .nil pass0) pe_str (nomark _))
        (pe_one (pe_cmpR op_notIn_seq (pv 6) (pe_ix ix_tup (pv 3) pe_int (fun _ _ => rfl)) rfl)))))) pss_nil)
    (pss_cons (ps_set (i := 11) scLaw.nd rfl (.inl rfl) (pv 10))
    (Evl.pss_cut (ps_if (pt_cmpR op_gt (pv 10) pe_int (nomark _)) (pss_one (ps_set (i := 11) scLaw.nd rfl (.inl rfl) pe_int)) pss_nil)
    (pss_cons (ps_set (i := 12) scLaw.nd rfl (.inl rfl) pe_str)
    (pss_cons (ps_for PassesOwn.never rfl (pi_range1 rfl T.range (pa_cons (pv 11) pa_nil)) (pg_name (i := 13) scLaw.nd rfl (.inl rfl))
      (pss_cons (ps_if (pt_cmpR op_ne (pe_meth0 (pv 8) T.cl mLf.mt mLf.ok hr4 mLf.bd .nil pass0) (pe_op op_sub (pv 10) (pv 13)) (nomark _)) (pss_one (ps_ret pe_bl)) pss_nil)
      (pss_cons (ps_set (i := 14) scLaw.nd rfl (.inl rfl) (pe_meth0 (pv 8) T.cl mHi.mt mHi.ok hr5 mHi.bd .nil pass0))
      (pss_cons (ps_expr (pe_meth (pv 8) T.cl mTk.mt mTk.ok hr5 mTk.bd .nil pass0 (pa_cons (pv 14) pa_nil)))
      (pss_one (ps_set (i := 12) scLaw.nd rfl (.inl rfl) (pe_op op_add_str (pv 12) (pv 14))))))))
    (pss_cons (ps_if (pt_cmpR op_gt (pv 10) pe_int (nomark _)) (pss_one (ps_ret (pe_cmpR op_eq (pe_meth0 (pv 8) T.cl mLf.mt mLf.ok hr4 mLf.bd .nil pass0) (pe_op op_sub (pv 10) pe_int) (nomark _)))) pss_nil)
    (pss_cons (ps_set (i := 15) scLaw.nd rfl (.inl rfl) (pe_call cP.ok hr2 rfl cP.mg_ cP.kp cP.bd .nil pass0 (pa_cons (pe_op op_add_str (pv 9) (pv 12)) pa_nil)))
    (pss_cons (ps_if (PW.pt (pw_or (pt_cmpR op_isN (pv 15) pe_non (nomark _)) (pw_or (pt_cmpR op_ne (pe_callB call_len_str rfl T.len boot_len (pa_cons (pv 12) pa_nil)) (pv 10) (nomark _))
        (pw_or (pt_cmpR op_ne (pe_meth0 (pv 8) T.cl mLf.mt mLf.ok hr4 mLf.bd .nil pass0) pe_int (nomark _)) (pw_or1 (pt_cmpR op_ne (pe_meth0 (pv 8) T.cl mHi.mt mHi.ok hr5 mHi.bd .nil pass0) pe_str (nomark _))))))) (pss_one (ps_ret pe_bl)) pss_nil)
    (pss_one (ps_ret (pe_cmpR op_in_seq (pe_call cS.ok hr rfl cS.mg_ cS.kp cS.bd .nil pass0 (pa_cons (pe_callTy (call_dictP rfl) rfl md bootDict (pa_cons (pe_ix ix_tup (pv 3) pe_int (fun _ _ => rfl)) pa_nil)) (pa_cons (pe_ix ix_tup (pv 3) pe_int (fun _ _ => rfl)) (pa_cons (pv 15) pa_nil))))
      (pe_ix ix_tup (pv 3) pe_int (fun _ _ => rfl)) rfl)))))))))))))))))))))), ?_⟩
  -- the labels, the size, the machine
  refine ⟨_, rfl, a, ns, 1, rfl, hS, hn, by decide, by decide, fun lp H1 ls s1 _ hL hl1 hl4 hlo hlnd => ?_⟩
  refine ⟨_, rfl, a, ns, 0, 6, rfl, s1.seq hS, hn, by decide, by decide, by decide, fun r hr' => ?_⟩
  refine ⟨1, (r : Int), rfl, rfl, ?_⟩
  refine ⟨_, rfl, _, rfl, _, rfl, a, lp, ns, 5, 1 + (r : Int), 1 + r, ls, rfl, s1.seq hS, hn, by decide, by decide, (by omega), (by omega), (by omega), hL, hl1, hl4, hlo, hlnd, fun mt H2 M s12 hM o hMn hMs hMg => ?_⟩
  have s2 := s1.trans s12
  have hL2 := s12 _ _ hL
  have hrr : r * r ≤ 25 := Nat.mul_le_mul (show r ≤ 5 by omega) (show r ≤ 5 by omega)
  have hsq : (1 + (r : Int) - 1) * (1 + (r : Int) - 1) = ((r * r : Nat) : Int) := by
    rw [show (1 + (r : Int) - 1) = (r : Int) by omega]
    rfl
  refine ⟨fun σ' H' => ∃ (z : Int) (kk : Int), σ' = [some (.ref a), some (.ref lp), some (.int z), some (.ref mt), some (.int kk), none, none, none, none, none, none, none, none, none, none, none] ∧ H' = H2 ∧ 0 ≤ kk ∧ kk ≤ 100, ?_, ?_⟩
  · refine ⟨_, rfl, lp, _, rfl, .inl (SqL.of hL2), 5, _, rfl, rfl, _, rfl, _, 1, rfl, rfl, _, rfl, _, 1, rfl, rfl, _, _, rfl, rfl, .inl ⟨by omega, by omega⟩, _, _, rfl, rfl, _, rfl, _, _, rfl, rfl, ?_⟩
    refine ⟨1 + (r : Int), _, rfl, rfl, ?_, ?_⟩
    · rw [hsq, List.length_map]
      omega
    · rw [hsq, List.length_map]
      omega
  rintro σ' H' ⟨z, kk, rfl, rfl, k0, k1⟩
  -- the tree
  refine ⟨_, rfl, _, rfl, _, rfl, _, rfl, kk, 1, rfl, rfl, a, ns, kk + 1, 9, rfl, s2.seq hS, hn, by omega, by omega, by decide, fun r2 hr2' => ?_⟩
  refine ⟨1, (r2 : Int), rfl, rfl, _, rfl, a, lp, ns, kk, 1 + (r2 : Int), 1 + r2, ls, rfl, s2.seq hS, hn, k0, by omega, (by omega), (by omega), (by omega), hL2, hl1, hl4, hlo, fun v t H3 s23 hT tok tn => ?_⟩
  have s3 := s2.trans s23
  have hM3 := hM.mono s23
  have tn9 : t.nodes ≤ 9 := by omega
  -- its state
  obtain ⟨aS, aT, aG, as, hm1, hm2, hm3, hm4, hm5, hm6⟩ := hM3.mem
  refine ⟨_, rfl, mt, _, 0, _, rfl, rfl, hm1, rfl, aS, as, kvsOf M.starts, rfl, SqL.of hm2, hm3, fun d hd => ?_⟩
  have sd := same_new hd (.dK (mergeK [] (kvsOf M.starts)))
  have hdd : DictAt (upd H3 d (.dK (mergeK [] (kvsOf M.starts)))) d M := dict_of o upd_same
  generalize upd H3 d (.dK (mergeK [] (kvsOf M.starts))) = H4 at sd hdd
  have s4 := s3.trans sd
  have hM4 := hM3.mono sd
  have hT4 := hT.mono sd
  refine ⟨_, rfl, mt, _, 1, _, rfl, rfl, sd.t hm1, rfl, _, rfl, d, aT, v, M, t, rfl, hdd, hm4.mono sd, o, tok, hT4, by omega, ?_⟩
  -- one more good state, perhaps
  refine ⟨fun σ' H' => ∃ (mt : Addr) (M : Mach), σ' = [some (.ref a), some (.ref lp), some (.int z), some (.ref mt), some (.int kk), some v, some (nV (t.state M)), none, none, none, none, none, none, none, none, none] ∧ Same H4 H' ∧ MachAt K H' mt M ∧ M.Ok ∧ M.n ≤ 1000 ∧ M.starts.length ≤ 1000 ∧ M.good.length ≤ 1000, ?_, ?_⟩
  · have stay : ∀ σ H', σ = [some (.ref a), some (.ref lp), some (.int z), some (.ref mt), some (.int kk), some v, some (nV (t.state M)), none, none, none, none, none, none, none, none, none] → H' = H4 → ∃ (mt : Addr) (M : Mach), σ = [some (.ref a), some (.ref lp), some (.int z), some (.ref mt), some (.int kk), some v, some (nV (t.state M)), none, none, none, none, none, none, none, none, none] ∧ Same H4 H' ∧ MachAt K H' mt M ∧ M.Ok ∧ M.n ≤ 1000 ∧ M.starts.length ≤ 1000 ∧ M.good.length ≤ 1000 :=
      fun σ H' e1 e2 => by subst e1; subst e2; exact ⟨mt, M, rfl, Same.refl _, hM4, o, by omega, by omega, by omega⟩
    refine ⟨_, rfl, rfl, _, rfl, ?_⟩
    have hne : (!decide (nV (t.state M) = V.int 0)) = !decide (((t.state M : Nat) : Int) = 0) := int_neq _ _
    by_cases h0 : t.state M = 0
    · refine ite_f (hne.trans (by rw [h0]; rfl)) ?_
      exact stay _ _ rfl rfl
    · refine ite_t (hne.trans (by rw [decide_eq_false (by omega)]; rfl)) ?_
      refine ⟨_, rfl, a, ns, 0, 18, rfl, s4.seq hS, hn, by decide, by decide, by decide, fun r3 hr3 => ?_⟩
      refine ⟨(r3 : Int), 6, rfl, rfl, ⟨by decide, by decide⟩, (r3 : Int) / 6, 0, rfl, rfl, _, rfl, ?_⟩
      by_cases h6 : (r3 : Int) / 6 > 0
      · refine ite_t (decide_eq_true h6) ?_
        refine ⟨_, rfl, _, rfl, mt, _, 2, _, rfl, rfl, sd.t hm1, rfl, aG, _, rfl, .inl (SqL.of (sd _ _ hm5)), rfl, flat_nats _, _, rfl, ?_⟩
        by_cases hg : t.state M ∈ M.good
        · refine ite_f ((congrArg Bool.not (inV_nat _ _)).trans (by rw [decide_eq_true hg]; rfl)) ?_
          exact stay _ _ rfl rfl
        · refine ite_t ((congrArg Bool.not (inV_nat _ _)).trans (by rw [decide_eq_false hg]; rfl)) ?_
          refine ⟨_, rfl, mt, _, 0, _, rfl, rfl, sd.t hm1, rfl, _, rfl, mt, _, 1, _, rfl, rfl, sd.t hm1, rfl, _, rfl, mt, _, 2, _, rfl, rfl, sd.t hm1, rfl, _, rfl, (by show 1 ≤ sizeLine; decide), fun p1 hp1 => ?_⟩
          have sa := same_new hp1 (.lst [nV (t.state M)])
          refine ⟨aG, p1, _, _, rfl, rfl, sa _ _ (sd _ _ hm5), upd_same, (by rw [List.length_map]; exact sz _ (by show M.good.length + 1 ≤ 100000; omega)), fun p2 hp2 => ?_⟩
          have sb := same_new hp2 (.lst (M.good.map nV ++ [nV (t.state M)]))
          have em : M.good.map nV ++ [nV (t.state M)] = ((M.good ++ [t.state M]).map fun n : Nat => (n : Int)).map V.int := by
            rw [List.map_map, List.map_append]
            rfl
          refine ⟨p2, (M.good ++ [t.state M]).map fun n : Nat => (n : Int), rfl, SqL.of (by rw [upd_same, em]), (by rw [List.length_map, List.length_append, List.length_singleton]; omega), fun ns' p3 hperm _ hp3 => ?_⟩
          have sc := same_new hp3 (.lst (ns'.map V.int))
          have hpos : ∀ i ∈ ns', 0 ≤ i := fun i hi => by
            have := hperm.mem_iff.mp hi
            obtain ⟨n, _, rfl⟩ := List.mem_map.mp this
            omega
          have hmem : ∀ s ∈ ns'.map Int.toNat, s ∈ M.good ∨ s = t.state M := fun s hs => by
            obtain ⟨i, hi, rfl⟩ := List.mem_map.mp hs
            have := hperm.mem_iff.mp hi
            obtain ⟨n, hn', rfl⟩ := List.mem_map.mp this
            rcases List.mem_append.mp hn' with h | h
            · exact .inl (by simpa using h)
            · exact .inr (by simpa using h)
          refine ⟨(by show 3 ≤ sizeLine; decide), fun p4 hp4 => ?_⟩
          have sdd := same_new hp4 (.tup [.ref aS, .ref aT, .ref p3])
          have sall := ((sa.trans sb).trans sc).trans sdd
          have oG : (M.wg (ns'.map Int.toNat)).Ok := wg_ok o fun s hs => by
            rcases hmem s hs with h | h
            · exact o.gd s h
            · rw [h]
              exact ⟨by omega, state_lt o t⟩
          refine ⟨p4, M.wg (ns'.map Int.toNat), ?_, sall, ⟨aS, aT, p3, SqT.of upd_same, (hm6.mono sd).mono sall, (hm4.mono sd).mono sall, ?_⟩, oG, (by show M.n ≤ 1000; omega), (by show M.starts.length ≤ 1000; omega), ?_⟩
          · rw [state_good]
            rfl
          · show upd _ p4 _ p3 = _
            exact sdd _ _ (by rw [upd_same, ints_nat hpos]; rfl)
          · show (ns'.map Int.toNat).length ≤ 1000
            rw [List.length_map, hperm.length_eq, List.length_map, List.length_append, List.length_singleton]
            omega
      · refine ite_f (decide_eq_false h6) ?_
        exact stay _ _ rfl rfl
  clear hm1 hm2 hm3 hm4 hm5 hm6 hdd hM4 hM3 hM o hMn hMs hMg
  rintro σ' H5 ⟨mt, M, rfl, s45, hM, o, hMn, hMs, hMg⟩
  have s5 := s4.trans s45
  -- the line
  refine ⟨_, rfl, v, t, rfl, tok, hT4.mono s45, tn9, by omega, fun H6 s56 => ?_⟩
  have s6 := s5.trans s56
  have hM6 := hM.mono s56
  have htl : t.text.length ≤ 1000 := by
    have := text_len t tok
    omega
  -- the reader
  refine ⟨_, rfl, fun x dx nx ndx nex => ?_⟩
  have s67 : Same H6 (upd (upd H6 dx (.own x)) x (.ins C dx [])) := fun b u e => by
    rw [upd_ne (ne_of_none e nx), upd_ne (ne_of_none e ndx)]
    exact e
  refine ⟨x, dx, mt, M, rfl, hM6.mono s67, o, hMn, hMs, hMg, upd_same, fun A H7 eA hfr R => ⟨rfl, ?_⟩⟩
  have s7f : Same H6 (fr A H7) := fun b u e => hfr b u (s67 _ _ e) (ne_of_none e nx)
  have s7 : Same H6 H7 := s7f.trans (mns_same _ _)
  clear s67 hfr
  subst eA
  clear nx ndx nex
  -- the signs
  refine ⟨_, rfl, _, rfl, _, rfl, kk, 2, rfl, rfl, _, rfl, a, ns, kk + 2, t.text, rfl, (s6.trans s7).seq hS, hn, by omega, by omega, htl, ?_, fun sp H8 sg s78 nsp hsp hsgl hsgc => ?_⟩
  · have := text_nodes_cnt t tok
    omega
  have s8f := s7f.trans (mns_mono A.mut s78)
  have R8 := R.same s78
  have hM8 : MachAt K (fr A H8) mt M := hM6.mono s8f
  obtain ⟨aS, aT, aG, as, hm1, hm2, hm3, hm4, hm5, hm6⟩ := hM8.mem
  have toH : ∀ {H9 : Hp}, Same (fr A H8) (fr A H9) → Same (fr A H8) H9 := fun s => s.trans (mns_same _ _)
  have fn0 : Fine M init := Fine.init o hMn hMs
  refine ⟨_, rfl, _, rfl, _, rfl, mt, _, 2, _, rfl, rfl, (toH (Same.refl _)).t hm1, rfl, aG, _, rfl, .inl (SqL.of (toH (Same.refl _) _ _ hm5)), rfl, flat_nats _, ?_⟩
  refine ⟨A, M, sp, sg, t, congrArg (fun b => [V.ref A.r, .ref sp, .str (S t.text), .bl b]) (inV_nat _ _), fn0, R8, tok, htl, fr_out (R.new nsp) hsp, hsgl, fun b c H9 s9 R9 hrun hsub hcs fn => ?_⟩
  have hbl : b.length ≤ 2000 := by have := hsub.length_le; omega
  have hbc : cnt 40 b + cnt 41 b ≤ 80 := by
    have h1 := cnt_sub (x := 40) hsub
    have h2 := cnt_sub (x := 41) hsub
    omega
  -- if sofar is None
  refine ⟨_, rfl, rfl, _, rfl, ?_⟩
  refine ite_f (decide_eq_false (by intro q; cases q)) ?_
  -- left
  obtain ⟨iv, hob, _⟩ := R9.ob
  refine ⟨_, rfl, A.r, A.dx, _, rfl, hob, lk_m6 _ _ _ _ _, A, M, c, rfl, fn, R9, fun H10 s910 R10 => ?_⟩
  have s10 := s9.trans s910
  obtain ⟨iv10, hob10, _⟩ := R10.ob
  refine ⟨_, rfl, rfl, _, rfl, ?_⟩
  cases hl : left M c with
  | none =>
    refine ite_t (decide_eq_true rfl) ?_
    obtain ⟨w1, w2, w3⟩ := left_none o fn.wf hl
    have hb0 := run_init o hrun w1 w2 w3
    subst hb0
    have hc0 : init = c := Option.some.inj hrun
    subst hc0
    have hng := none_left o tok hl
    refine ⟨_, rfl, rfl, _, rfl, ?_⟩
    refine ite_t ((isNil _).trans rfl) ?_
    refine ⟨_, rfl, A.r, A.dx, _, rfl, hob10, lk_m7 _ _ _ _ _, A, M, init, rfl, fn, R10, fun H11 s1011 R11 => ?_⟩
    have s11 := s10.trans s1011
    refine ⟨rfl, _, rfl, ?_⟩
    refine ite_t ((isNil _).trans (by rw [hint_none hl]; rfl)) ?_
    refine ⟨_, rfl, _, rfl, mt, _, 2, _, rfl, rfl, (toH s11).t hm1, rfl, aG, _, rfl, .inl (SqL.of (toH s11 _ _ hm5)), rfl, flat_nats _, ?_⟩
    show Q (.bl (!inV (nV (t.state M)) (M.good.map nV))) H11
    rw [inV_nat, decide_eq_false hng]
    exact k H11
  | some m =>
    refine ite_f (decide_eq_false (by intro q; cases q)) ?_
    refine ⟨_, rfl, ?_⟩
    refine ⟨fun σ' H' => ∃ many : Nat, σ' = [some (.ref a), some (.ref lp), some (.int z), some (.ref mt), some (.int kk), some v, some (nV (t.state M)), some (.str (S t.text)), some (.ref A.r), some (.str (S b)), some (nV m), some (.int (many : Int)), none, none, none, none] ∧ H' = H10 ∧ (400 < m → many = 40) ∧ (m ≤ 400 → many = m), ?_, ?_⟩
    · refine ⟨_, rfl, (m : Int), 400, rfl, rfl, _, rfl, ?_⟩
      by_cases h4 : 400 < m
      · refine ite_t (decide_eq_true (by omega)) ?_
        exact ⟨40, rfl, rfl, fun _ => rfl, fun h => by omega⟩
      · refine ite_f (decide_eq_false (by omega)) ?_
        exact ⟨m, rfl, rfl, fun h => by omega, fun _ => rfl⟩
    rintro σ' H' ⟨many, rfl, rfl, hmb, hms⟩
    have hmany : many ≤ 400 ∧ many ≤ m := by
      by_cases h4 : 400 < m
      · have := hmb h4; omega
      · have := hms (by omega); omega
    refine ⟨_, rfl, (many : Int), rfl, by omega, by omega, ?_⟩
    have hmn : ((many : Nat) : Int).toNat = many := by omega
    refine for_range (lo := 0) (n := ((many : Nat) : Int).toNat) (fun j σ H' => ∃ (y13 y14 : Option V) (hd : Str) (e : List Nat) (c : Cfg), σ = [some (.ref a), some (.ref lp), some (.int z), some (.ref mt), some (.int kk), some v, some (nV (t.state M)), some (.str (S t.text)), some (.ref A.r), some (.str (S b)), some (nV m), some (.int (many : Int)), some (.str hd), y13, y14, none] ∧ hd = S e ∧ e.length = j ∧
        Same (fr A H8) (fr A H') ∧ RdAt C M A H' c ∧ run M init (b ++ e) = some c ∧ left M c = some (m - j) ∧ Fine M c ∧ c.sts.length ≤ 2000 + j)
      ⟨none, none, _, [], c, rfl, str_nil, rfl, s10, R10, by rw [List.append_nil]; exact hrun, by rw [Nat.sub_zero]; exact hl, fn, by omega⟩ ?_ ?_
    · rintro j σ H11 hj ⟨y13, y14, hd, e, c, rfl, rfl, hel, s11, R11, hrun, hl, fn, hcs⟩
      rw [hmn] at hj
      obtain ⟨iv11, hob11, _⟩ := R11.ob
      refine ⟨_, rfl, A.r, A.dx, _, rfl, hob11, lk_m6 _ _ _ _ _, A, M, c, rfl, fn, R11, fun H12 s1112 R12 => ?_⟩
      have s12 := s11.trans s1112
      obtain ⟨iv12, hob12, _⟩ := R12.ob
      obtain ⟨u, hu⟩ : ∃ u, m - j = u + 1 := ⟨m - j - 1, by omega⟩
      have hl2 := hl
      rw [hu] at hl2
      obtain ⟨xx, hx1, hx2, hx3⟩ := hint_ok o fn.wf hl2
      refine ⟨_, rfl, _, rfl, (m : Int), (0 + (j : Int)), rfl, rfl, (by rw [hl]; rfl), _, rfl, ?_⟩
      rw [hl]
      refine ite_f ((int_neq _ _).trans (by rw [decide_eq_true (by omega)]; rfl)) ?_
      refine ⟨_, rfl, A.r, A.dx, _, rfl, hob12, lk_m7 _ _ _ _ _, A, M, c, rfl, fn, R12, fun H13 s1213 R13 => ?_⟩
      have s13 := s12.trans s1213
      obtain ⟨iv13, hob13, _⟩ := R13.ob
      rw [hx1]
      refine ⟨_, rfl, A.r, A.dx, _, rfl, hob13, lk_m5 _ _ _ _ _, _, rfl, A, M, c, xx, rfl, fn, by omega, hx2, R13, fun H14 s1314 R14 => ?_⟩
      refine ⟨_, rfl, _, rfl, S e, S [xx], rfl, rfl, (by rw [S_len, S_len]; exact sz _ (by simp; omega)), ?_⟩
      refine ⟨_, _, _, e ++ [xx], take M c xx, rfl, S_app _ _, by simp [hel], s13.trans s1314, R14, ?_, ?_, fn.take hx2, ?_⟩
      · rw [← List.append_assoc]
        exact run_snoc hrun hx2
      · rw [hx3, show m - (j + 1) = u by omega]
      · have := take_sts (M := M) c xx
        omega
    rintro σ H11 ⟨y13, y14, hd, e, c, rfl, rfl, hel, s11, R11, hrun, hl, fn, hcs⟩
    rw [hmn] at hel hl
    obtain ⟨iv11, hob11, _⟩ := R11.ob
    refine ⟨_, rfl, (m : Int), 400, rfl, rfl, _, rfl, ?_⟩
    by_cases h4 : 400 < m
    · refine ite_t (decide_eq_true (by omega)) ?_
      have hm40 := hmb h4
      refine ⟨_, rfl, A.r, A.dx, _, rfl, hob11, lk_m6 _ _ _ _ _, A, M, c, rfl, fn, R11, fun H12 s1112 R12 => ?_⟩
      refine ⟨_, rfl, (m : Int), 40, rfl, rfl, (by rw [hl]; rfl), ?_⟩
      show Q (.bl (decide (oV (left M c) = V.int ((m : Int) - 40)))) H12
      rw [hl, decide_eq_true (show oV (some (m - many)) = V.int ((m : Int) - 40) from congrArg V.int (by omega))]
      exact k H12
    · refine ite_f (decide_eq_false (by omega)) ?_
      have hmm := hms (by omega)
      have hl0 : left M c = some 0 := by rw [hl, hmm, Nat.sub_self]
      have hw := left_zero o fn.wf hl0
      obtain ⟨t', hP, hg⟩ := parsed_whole o hrun hw
      have hno : t'.nodes ≤ 190 := Nat.le_trans (parsed_few hP hbc (by omega)) (by decide)
      refine ⟨_, rfl, _, rfl, S b, S e, rfl, rfl, (by rw [S_len, S_len]; exact sz _ (by omega)), b ++ e, t', congrArg (fun q => [V.str q]) (S_app _ _), (by rw [List.length_append]; omega), hP, fun v' H12 s1112 hT' => ?_⟩
      have s12 := s11.trans (mns_mono A.mut s1112)
      have R12 := R11.same s1112
      obtain ⟨iv12, hob12, _⟩ := R12.ob
      obtain ⟨va, rfl⟩ := tr_ref hT'
      refine ⟨_, rfl, rfl, _, rfl, ?_⟩
      refine ite_f (decide_eq_false (by intro q; cases q)) ?_
      refine ⟨_, rfl, _, rfl, (by rw [S_len]; exact sz _ (by omega)), _, rfl, rfl, _, rfl, ?_⟩
      refine ite_f ((int_neq _ _).trans (by rw [S_len, decide_eq_true (by omega)]; rfl)) ?_
      refine ⟨_, rfl, A.r, A.dx, _, rfl, hob12, lk_m6 _ _ _ _ _, A, M, c, rfl, fn, R12, fun H13 s1213 R13 => ?_⟩
      have s13 := s12.trans s1213
      obtain ⟨iv13, hob13, _⟩ := R13.ob
      refine ⟨(by rw [hl0]; rfl), _, rfl, ?_⟩
      rw [hl0]
      refine ite_f (by decide) ?_
      refine ⟨_, rfl, A.r, A.dx, _, rfl, hob13, lk_m7 _ _ _ _ _, A, M, c, rfl, fn, R13, fun H14 s1314 R14 => ?_⟩
      have s14 := s13.trans s1314
      refine ⟨rfl, _, rfl, ?_⟩
      refine ite_f ((congrArg Bool.not (isNil _)).trans (by rw [hint_whole hw]; rfl)) ?_
      have hT14 : TrAt H14 (.ref va) t' := hT'.keep (keepT_fr R12 (s1213.trans s1314))
      -- the state of what was read
      refine ⟨_, rfl, mt, _, 0, _, rfl, rfl, (toH s14).t hm1, rfl, aS, as, kvsOf M.starts, rfl, SqL.of (toH s14 _ _ hm2), paired_mono (toH s14) hm3, fun d hd => ?_⟩
      have sd := same_new hd (.dK (mergeK [] (kvsOf M.starts)))
      have hdd : DictAt (upd H14 d (.dK (mergeK [] (kvsOf M.starts)))) d M := dict_of o upd_same
      generalize upd H14 d (.dK (mergeK [] (kvsOf M.starts))) = H15 at sd hdd
      have s15 := (toH s14).trans sd
      refine ⟨_, rfl, mt, _, 1, _, rfl, rfl, s15.t hm1, rfl, _, rfl, d, aT, _, M, t', rfl, hdd, hm4.mono s15, o, parsed_ok hP, hT14.mono sd, hno, ?_⟩
      refine ⟨_, rfl, mt, _, 2, _, rfl, rfl, s15.t hm1, rfl, aG, _, rfl, .inl (SqL.of (s15 _ _ hm5)), rfl, flat_nats _, ?_⟩
      show Q (.bl (inV (nV (t'.state M)) (M.good.map nV))) H15
      rw [inV_nat, decide_eq_true hg]
      exact k H15
end
end Wd
namespace Wd
open PySem L2
/-! ### what the top has written -/
theorem all_mk {l : PySem.W.OpenLaw} {w : World} {K : PySem.W.Frag} {h : Heap} {mg : Str → Option Value} {fa C fPos fSta fFal fPrd fPrs fClo fDrw fLab fLbs fMac fWor fTre fSte fTex fIsh fPar fSig fBeg fLaw fIni fInn fChe fCls fFit fTak fLef fHin : Addr} (X : K.In h) (G : h.Ns mainGlobals mg) (hfa : mg "law" = some (.ref fa))
    {odPos anPos odSta anSta odFal anFal odPrd anPrd odPrs anPrs odClo anClo odDrw anDrw odLab anLab odLbs anLbs odMac anMac odWor anWor odTre anTre odSte anSte odTex anTex odIsh anIsh odPar anPar odSig anSig odBeg anBeg odLaw anLaw odIni anIni odInn anInn odChe anChe odCls anCls odFit anFit odTak anTak odLef anLef odHin anHin : Option Addr} {slPos slSta slFal slPrd slPrs slClo slDrw slLab slLbs slMac slWor slTre slSte slTex slIsh slPar slSig slBeg slLaw slIni slInn slChe slCls slFit slTak slLef slHin : Array (Option Value)} {ocPos kVPos dcPos pmPos cdPos ctPos ocSta kVSta dcSta pmSta cdSta ctSta ocFal kVFal dcFal pmFal cdFal ctFal ocPrd kVPrd dcPrd pmPrd cdPrd ctPrd ocPrs kVPrs dcPrs pmPrs cdPrs ctPrs ocClo kVClo dcClo pmClo cdClo ctClo ocDrw kVDrw dcDrw pmDrw cdDrw ctDrw ocLab kVLab dcLab pmLab cdLab ctLab ocLbs kVLbs dcLbs pmLbs cdLbs ctLbs ocMac kVMac dcMac pmMac cdMac ctMac ocWor kVWor dcWor pmWor cdWor ctWor ocTre kVTre dcTre pmTre cdTre ctTre ocSte kVSte dcSte pmSte cdSte ctSte ocTex kVTex dcTex pmTex cdTex ctTex ocIsh kVIsh dcIsh pmIsh cdIsh ctIsh ocPar kVPar dcPar pmPar cdPar ctPar ocSig kVSig dcSig pmSig cdSig ctSig ocBeg kVBeg dcBeg pmBeg cdBeg ctBeg ocLaw kVLaw dcLaw pmLaw cdLaw ctLaw ocIni kVIni dcIni pmIni cdIni ctIni ocInn kVInn dcInn pmInn cdInn ctInn ocChe kVChe dcChe pmChe cdChe ctChe ocCls kVCls dcCls pmCls cdCls ctCls ocFit kVFit dcFit pmFit cdFit ctFit ocTak kVTak dcTak pmTak cdTak ctTak ocLef kVLef dcLef pmLef cdLef ctLef ocHin kVHin dcHin pmHin cdHin ctHin : Value} {t1 t2 t3 : Nat}
    (aC : PySem.W.nsIn K mainGlobals "Reader" = some (some (.ref C)))
    (aIni : PySem.W.findIn K (.ref C) "__init__" = some (some (.ref fIni)))
    (iIni : PySem.W.isFn K (.ref fIni) = true)
    (lIni : K.lookup fIni = some ⟨ocIni, odIni, .func (PySem.W.fnOf "__init__" "Reader.__init__" (defArgs sInit) (defBody sInit) (defScope sInit) .none kVIni dcIni pmIni anIni cdIni ctIni), slIni⟩)
    (cIni : PySem.W.codeIn K cdIni "Reader.__init__" = true)
    (kIni : PySem.W.keepIn K (.ref fIni) = true)
    (aInn : PySem.W.findIn K (.ref C) "inner_costs" = some (some (.ref fInn)))
    (iInn : PySem.W.isFn K (.ref fInn) = true)
    (lInn : K.lookup fInn = some ⟨ocInn, odInn, .func (PySem.W.fnOf "inner_costs" "Reader.inner_costs" (defArgs sInner) (defBody sInner) (defScope sInner) .none kVInn dcInn pmInn anInn cdInn ctInn), slInn⟩)
    (cInn : PySem.W.codeIn K cdInn "Reader.inner_costs" = true)
    (kInn : PySem.W.keepIn K (.ref fInn) = true)
    (aChe : PySem.W.findIn K (.ref C) "cheapest" = some (some (.ref fChe)))
    (iChe : PySem.W.isFn K (.ref fChe) = true)
    (lChe : K.lookup fChe = some ⟨ocChe, odChe, .func (PySem.W.fnOf "cheapest" "Reader.cheapest" (defArgs sCheapest) (defBody sCheapest) (defScope sCheapest) .none kVChe dcChe pmChe anChe cdChe ctChe), slChe⟩)
    (cChe : PySem.W.codeIn K cdChe "Reader.cheapest" = true)
    (kChe : PySem.W.keepIn K (.ref fChe) = true)
    (aCls : PySem.W.findIn K (.ref C) "closes" = some (some (.ref fCls)))
    (iCls : PySem.W.isFn K (.ref fCls) = true)
    (lCls : K.lookup fCls = some ⟨ocCls, odCls, .func (PySem.W.fnOf "closes" "Reader.closes" (defArgs sCloses) (defBody sCloses) (defScope sCloses) .none kVCls dcCls pmCls anCls cdCls ctCls), slCls⟩)
    (cCls : PySem.W.codeIn K cdCls "Reader.closes" = true)
    (kCls : PySem.W.keepIn K (.ref fCls) = true)
    (aFit : PySem.W.findIn K (.ref C) "fits" = some (some (.ref fFit)))
    (iFit : PySem.W.isFn K (.ref fFit) = true)
    (lFit : K.lookup fFit = some ⟨ocFit, odFit, .func (PySem.W.fnOf "fits" "Reader.fits" (defArgs sFits) (defBody sFits) (defScope sFits) .none kVFit dcFit pmFit anFit cdFit ctFit), slFit⟩)
    (cFit : PySem.W.codeIn K cdFit "Reader.fits" = true)
    (kFit : PySem.W.keepIn K (.ref fFit) = true)
    (aTak : PySem.W.findIn K (.ref C) "take" = some (some (.ref fTak)))
    (iTak : PySem.W.isFn K (.ref fTak) = true)
    (lTak : K.lookup fTak = some ⟨ocTak, odTak, .func (PySem.W.fnOf "take" "Reader.take" (defArgs sTake) (defBody sTake) (defScope sTake) .none kVTak dcTak pmTak anTak cdTak ctTak), slTak⟩)
    (cTak : PySem.W.codeIn K cdTak "Reader.take" = true)
    (kTak : PySem.W.keepIn K (.ref fTak) = true)
    (aLef : PySem.W.findIn K (.ref C) "left" = some (some (.ref fLef)))
    (iLef : PySem.W.isFn K (.ref fLef) = true)
    (lLef : K.lookup fLef = some ⟨ocLef, odLef, .func (PySem.W.fnOf "left" "Reader.left" (defArgs sLeft) (defBody sLeft) (defScope sLeft) .none kVLef dcLef pmLef anLef cdLef ctLef), slLef⟩)
    (cLef : PySem.W.codeIn K cdLef "Reader.left" = true)
    (kLef : PySem.W.keepIn K (.ref fLef) = true)
    (aHin : PySem.W.findIn K (.ref C) "hint" = some (some (.ref fHin)))
    (iHin : PySem.W.isFn K (.ref fHin) = true)
    (lHin : K.lookup fHin = some ⟨ocHin, odHin, .func (PySem.W.fnOf "hint" "Reader.hint" (defArgs sHint) (defBody sHint) (defScope sHint) .none kVHin dcHin pmHin anHin cdHin ctHin), slHin⟩)
    (cHin : PySem.W.codeIn K cdHin "Reader.hint" = true)
    (kHin : PySem.W.keepIn K (.ref fHin) = true)
    (aPos : PySem.W.nsIn K mainGlobals "price_of_start" = some (some (.ref fPos)))
    (lPos : K.lookup fPos = some ⟨ocPos, odPos, .func (PySem.W.fnOf "price_of_start" "price_of_start" (defArgs sPos) (defBody sPos) (defScope sPos) .none kVPos dcPos pmPos anPos cdPos ctPos), slPos⟩)
    (cPos : PySem.W.codeIn K cdPos "price_of_start" = true)
    (kPos : PySem.W.keepIn K (.ref fPos) = true)
    (aSta : PySem.W.nsIn K mainGlobals "started_prices" = some (some (.ref fSta)))
    (lSta : K.lookup fSta = some ⟨ocSta, odSta, .func (PySem.W.fnOf "started_prices" "started_prices" (defArgs sStarted) (defBody sStarted) (defScope sStarted) .none kVSta dcSta pmSta anSta cdSta ctSta), slSta⟩)
    (cSta : PySem.W.codeIn K cdSta "started_prices" = true)
    (kSta : PySem.W.keepIn K (.ref fSta) = true)
    (aFal : PySem.W.nsIn K mainGlobals "prices_fall" = some (some (.ref fFal)))
    (lFal : K.lookup fFal = some ⟨ocFal, odFal, .func (PySem.W.fnOf "prices_fall" "prices_fall" (defArgs sFall) (defBody sFall) (defScope sFall) .none kVFal dcFal pmFal anFal cdFal ctFal), slFal⟩)
    (cFal : PySem.W.codeIn K cdFal "prices_fall" = true)
    (kFal : PySem.W.keepIn K (.ref fFal) = true)
    (aPrd : PySem.W.nsIn K mainGlobals "priced" = some (some (.ref fPrd)))
    (lPrd : K.lookup fPrd = some ⟨ocPrd, odPrd, .func (PySem.W.fnOf "priced" "priced" (defArgs sPriced) (defBody sPriced) (defScope sPriced) .none kVPrd dcPrd pmPrd anPrd cdPrd ctPrd), slPrd⟩)
    (cPrd : PySem.W.codeIn K cdPrd "priced" = true)
    (kPrd : PySem.W.keepIn K (.ref fPrd) = true)
    (aPrs : PySem.W.nsIn K mainGlobals "prices_of" = some (some (.ref fPrs)))
    (lPrs : K.lookup fPrs = some ⟨ocPrs, odPrs, .func (PySem.W.fnOf "prices_of" "prices_of" (defArgs sPrices) (defBody sPrices) (defScope sPrices) .none kVPrs dcPrs pmPrs anPrs cdPrs ctPrs), slPrs⟩)
    (cPrs : PySem.W.codeIn K cdPrs "prices_of" = true)
    (kPrs : PySem.W.keepIn K (.ref fPrs) = true)
    (aClo : PySem.W.nsIn K mainGlobals "closing_costs" = some (some (.ref fClo)))
    (lClo : K.lookup fClo = some ⟨ocClo, odClo, .func (PySem.W.fnOf "closing_costs" "closing_costs" (defArgs sClosing) (defBody sClosing) (defScope sClosing) .none kVClo dcClo pmClo anClo cdClo ctClo), slClo⟩)
    (cClo : PySem.W.codeIn K cdClo "closing_costs" = true)
    (kClo : PySem.W.keepIn K (.ref fClo) = true)
    (aDrw : PySem.W.nsIn K mainGlobals "_law_draw" = some (some (.ref fDrw)))
    (lDrw : K.lookup fDrw = some ⟨ocDrw, odDrw, .func (PySem.W.fnOf "_law_draw" "_law_draw" (defArgs sDraw) (defBody sDraw) (defScope sDraw) .none kVDrw dcDrw pmDrw anDrw cdDrw ctDrw), slDrw⟩)
    (cDrw : PySem.W.codeIn K cdDrw "_law_draw" = true)
    (kDrw : PySem.W.keepIn K (.ref fDrw) = true)
    (aLab : PySem.W.nsIn K mainGlobals "_law_label" = some (some (.ref fLab)))
    (lLab : K.lookup fLab = some ⟨ocLab, odLab, .func (PySem.W.fnOf "_law_label" "_law_label" (defArgs sLabel) (defBody sLabel) (defScope sLabel) .none kVLab dcLab pmLab anLab cdLab ctLab), slLab⟩)
    (cLab : PySem.W.codeIn K cdLab "_law_label" = true)
    (kLab : PySem.W.keepIn K (.ref fLab) = true)
    (aLbs : PySem.W.nsIn K mainGlobals "_law_labels" = some (some (.ref fLbs)))
    (lLbs : K.lookup fLbs = some ⟨ocLbs, odLbs, .func (PySem.W.fnOf "_law_labels" "_law_labels" (defArgs sLabels) (defBody sLabels) (defScope sLabels) .none kVLbs dcLbs pmLbs anLbs cdLbs ctLbs), slLbs⟩)
    (cLbs : PySem.W.codeIn K cdLbs "_law_labels" = true)
    (kLbs : PySem.W.keepIn K (.ref fLbs) = true)
    (aMac : PySem.W.nsIn K mainGlobals "_law_machine" = some (some (.ref fMac)))
    (lMac : K.lookup fMac = some ⟨ocMac, odMac, .func (PySem.W.fnOf "_law_machine" "_law_machine" (defArgs sMachine) (defBody sMachine) (defScope sMachine) .none kVMac dcMac pmMac anMac cdMac ctMac), slMac⟩)
    (cMac : PySem.W.codeIn K cdMac "_law_machine" = true)
    (kMac : PySem.W.keepIn K (.ref fMac) = true)
    (aWor : PySem.W.nsIn K mainGlobals "_law_word" = some (some (.ref fWor)))
    (lWor : K.lookup fWor = some ⟨ocWor, odWor, .func (PySem.W.fnOf "_law_word" "_law_word" (defArgs sWord) (defBody sWord) (defScope sWord) .none kVWor dcWor pmWor anWor cdWor ctWor), slWor⟩)
    (cWor : PySem.W.codeIn K cdWor "_law_word" = true)
    (kWor : PySem.W.keepIn K (.ref fWor) = true)
    (aTre : PySem.W.nsIn K mainGlobals "_law_tree" = some (some (.ref fTre)))
    (lTre : K.lookup fTre = some ⟨ocTre, odTre, .func (PySem.W.fnOf "_law_tree" "_law_tree" (defArgs sTree) (defBody sTree) (defScope sTree) .none kVTre dcTre pmTre anTre cdTre ctTre), slTre⟩)
    (cTre : PySem.W.codeIn K cdTre "_law_tree" = true)
    (kTre : PySem.W.keepIn K (.ref fTre) = true)
    (aSte : PySem.W.nsIn K mainGlobals "_law_state" = some (some (.ref fSte)))
    (lSte : K.lookup fSte = some ⟨ocSte, odSte, .func (PySem.W.fnOf "_law_state" "_law_state" (defArgs sState) (defBody sState) (defScope sState) .none kVSte dcSte pmSte anSte cdSte ctSte), slSte⟩)
    (cSte : PySem.W.codeIn K cdSte "_law_state" = true)
    (kSte : PySem.W.keepIn K (.ref fSte) = true)
    (aTex : PySem.W.nsIn K mainGlobals "_law_text" = some (some (.ref fTex)))
    (lTex : K.lookup fTex = some ⟨ocTex, odTex, .func (PySem.W.fnOf "_law_text" "_law_text" (defArgs sText) (defBody sText) (defScope sText) .none kVTex dcTex pmTex anTex cdTex ctTex), slTex⟩)
    (cTex : PySem.W.codeIn K cdTex "_law_text" = true)
    (kTex : PySem.W.keepIn K (.ref fTex) = true)
    (aIsh : PySem.W.nsIn K mainGlobals "_law_is_head" = some (some (.ref fIsh)))
    (lIsh : K.lookup fIsh = some ⟨ocIsh, odIsh, .func (PySem.W.fnOf "_law_is_head" "_law_is_head" (defArgs sIsHead) (defBody sIsHead) (defScope sIsHead) .none kVIsh dcIsh pmIsh anIsh cdIsh ctIsh), slIsh⟩)
    (cIsh : PySem.W.codeIn K cdIsh "_law_is_head" = true)
    (kIsh : PySem.W.keepIn K (.ref fIsh) = true)
    (aPar : PySem.W.nsIn K mainGlobals "_law_parsed" = some (some (.ref fPar)))
    (lPar : K.lookup fPar = some ⟨ocPar, odPar, .func (PySem.W.fnOf "_law_parsed" "_law_parsed" (defArgs sParsed) (defBody sParsed) (defScope sParsed) .none kVPar dcPar pmPar anPar cdPar ctPar), slPar⟩)
    (cPar : PySem.W.codeIn K cdPar "_law_parsed" = true)
    (kPar : PySem.W.keepIn K (.ref fPar) = true)
    (aSig : PySem.W.nsIn K mainGlobals "_law_signs" = some (some (.ref fSig)))
    (lSig : K.lookup fSig = some ⟨ocSig, odSig, .func (PySem.W.fnOf "_law_signs" "_law_signs" (defArgs sSigns) (defBody sSigns) (defScope sSigns) .none kVSig dcSig pmSig anSig cdSig ctSig), slSig⟩)
    (cSig : PySem.W.codeIn K cdSig "_law_signs" = true)
    (kSig : PySem.W.keepIn K (.ref fSig) = true)
    (aBeg : PySem.W.nsIn K mainGlobals "_law_begun" = some (some (.ref fBeg)))
    (lBeg : K.lookup fBeg = some ⟨ocBeg, odBeg, .func (PySem.W.fnOf "_law_begun" "_law_begun" (defArgs sBegun) (defBody sBegun) (defScope sBegun) .none kVBeg dcBeg pmBeg anBeg cdBeg ctBeg), slBeg⟩)
    (cBeg : PySem.W.codeIn K cdBeg "_law_begun" = true)
    (kBeg : PySem.W.keepIn K (.ref fBeg) = true)
    (aLaw : PySem.W.nsIn K mainGlobals "law" = some (some (.ref fLaw)))
    (lLaw : K.lookup fLaw = some ⟨ocLaw, odLaw, .func (PySem.W.fnOf "law" "law" (defArgs sLaw) (defBody sLaw) (defScope sLaw) .none kVLaw dcLaw pmLaw anLaw cdLaw ctLaw), slLaw⟩)
    (cLaw : PySem.W.codeIn K cdLaw "law" = true)
    (kLaw : PySem.W.keepIn K (.ref fLaw) = true)
    (pg : PySem.W.plainGet K C Str.empty = true)
    (hd : PySem.W.hasDictIn K C = true)
    (po : PySem.W.plainOver K C = true)
    (sa : PySem.W.findIn K (.ref C) "__setattr__" = some (some (.builtin "object.__setattr__")))
    (mk : PySem.W.makesIn K C = true)
    (kc : PySem.W.keepIn K (.ref C) = true)
    (n_starts : PySem.W.findIn K (.ref C) "starts" = some none)
    (n_steps : PySem.W.findIn K (.ref C) "steps" = some none)
    (n_good : PySem.W.findIn K (.ref C) "good" = some none)
    (n_prices : PySem.W.findIn K (.ref C) "prices" = some none)
    (n_states : PySem.W.findIn K (.ref C) "states" = some none)
    (n_costs : PySem.W.findIn K (.ref C) "costs" = some none)
    (n_inner : PySem.W.findIn K (.ref C) "inner" = some none)
    (n_head : PySem.W.findIn K (.ref C) "head" = some none)
    (n_signs : PySem.W.findIn K (.ref C) "signs" = some none)
    (n_whole : PySem.W.findIn K (.ref C) "whole" = some none)
    (z_len : PySem.W.nsIn K mainGlobals "len" = some none)
    (z_range : PySem.W.nsIn K mainGlobals "range" = some none)
    (z_list : PySem.W.nsIn K mainGlobals "list" = some none)
    (z_sorted : PySem.W.nsIn K mainGlobals "sorted" = some none)
    (z_max : PySem.W.nsIn K mainGlobals "max" = some none)
    (z_tuple : PySem.W.nsIn K mainGlobals "tuple" = some none)
    (z_all : PySem.W.nsIn K mainGlobals "all" = some none)
    (z_dict : PySem.W.nsIn K mainGlobals "dict" = some none)
    (gSm : PySem.W.nsIn K mainGlobals "SMALL_LETTERS" = some (some (.str "abcdefghijklmnopqrstuvwxyz" t1)))
    (gSw : PySem.W.nsIn K mainGlobals "SIGNS_OF_WORDS" = some (some (.str "abcdefghijklmnopqrstuvwxyz0123456789" t2)))
    (gMw : PySem.W.nsIn K mainGlobals "MOST_WORD" = some (some (.int 60 t3))) :
    ∃ fd : FuncData, (∀ (s : Shared) (v : Value), BindsTo s fd ⟨[v], []⟩ [("_law_script", v)]) ∧ ∀ base : Heap, K.In base → base.Ns mainGlobals mg → FnOk l.prog w K mg base CX0 191 fa fd ["_law_script"] (spLaw K) := by
  have e := hfa.symm.trans (PySem.W.mg_of X G aLaw)
  cases e
  have m_len := PySem.W.mg_none_of X G z_len
  have m_range := PySem.W.mg_none_of X G z_range
  have m_list := PySem.W.mg_none_of X G z_list
  have m_sorted := PySem.W.mg_none_of X G z_sorted
  have m_max := PySem.W.mg_none_of X G z_max
  have m_tuple := PySem.W.mg_none_of X G z_tuple
  have m_all := PySem.W.mg_none_of X G z_all
  have m_dict := PySem.W.mg_none_of X G z_dict
  have T : Txt K mg C := ⟨⟨pg, hd, po, sa⟩, n_starts, n_steps, n_good, n_prices, n_states, n_costs, n_inner, n_head, n_signs, n_whole, m_len, m_range⟩
  have Gm : Glb mg := ⟨⟨_, PySem.W.mg_of X G gSm⟩, ⟨_, PySem.W.mg_of X G gSw⟩, ⟨_, PySem.W.mg_of X G gMw⟩⟩
  have FIni := fun_mk (st := sInit) lIni cIni kIni
  have bIni := FIni.binds (ps := ["self", "machine"]) fun _ _ _ _ _ _ us hl => match us, hl with | [_, _], _ => rfl
  have FInn := fun_mk (st := sInner) lInn cInn kInn
  have bInn := FInn.binds (ps := ["self"]) fun _ _ _ _ _ _ us hl => match us, hl with | [_], _ => rfl
  have FChe := fun_mk (st := sCheapest) lChe cChe kChe
  have bChe := FChe.binds (ps := ["self", "head"]) fun _ _ _ _ _ _ us hl => match us, hl with | [_, _], _ => rfl
  have FCls := fun_mk (st := sCloses) lCls cCls kCls
  have bCls := FCls.binds (ps := ["self"]) fun _ _ _ _ _ _ us hl => match us, hl with | [_], _ => rfl
  have FFit := fun_mk (st := sFits) lFit cFit kFit
  have bFit := FFit.binds (ps := ["self", "sign"]) fun _ _ _ _ _ _ us hl => match us, hl with | [_, _], _ => rfl
  have FTak := fun_mk (st := sTake) lTak cTak kTak
  have bTak := FTak.binds (ps := ["self", "sign"]) fun _ _ _ _ _ _ us hl => match us, hl with | [_, _], _ => rfl
  have FLef := fun_mk (st := sLeft) lLef cLef kLef
  have bLef := FLef.binds (ps := ["self"]) fun _ _ _ _ _ _ us hl => match us, hl with | [_], _ => rfl
  have FHin := fun_mk (st := sHint) lHin cHin kHin
  have bHin := FHin.binds (ps := ["self"]) fun _ _ _ _ _ _ us hl => match us, hl with | [_], _ => rfl
  have FPos := fun_mk (st := sPos) lPos cPos kPos
  have bPos := FPos.binds (ps := ["label"]) fun _ _ _ _ _ _ us hl => match us, hl with | [_], _ => rfl
  have FSta := fun_mk (st := sStarted) lSta cSta kSta
  have bSta := FSta.binds (ps := ["machine"]) fun _ _ _ _ _ _ us hl => match us, hl with | [_], _ => rfl
  have FFal := fun_mk (st := sFall) lFal cFal kFal
  have bFal := FFal.binds (ps := ["steps", "prices", "hows"]) fun _ _ _ _ _ _ us hl => match us, hl with | [_, _, _], _ => rfl
  have FPrd := fun_mk (st := sPriced) lPrd cPrd kPrd
  have bPrd := FPrd.binds (ps := ["machine"]) fun _ _ _ _ _ _ us hl => match us, hl with | [_], _ => rfl
  have FPrs := fun_mk (st := sPrices) lPrs cPrs kPrs
  have bPrs := FPrs.binds (ps := ["machine"]) fun _ _ _ _ _ _ us hl => match us, hl with | [_], _ => rfl
  have FClo := fun_mk (st := sClosing) lClo cClo kClo
  have bClo := FClo.binds (ps := ["steps", "prices", "closed"]) fun _ _ _ _ _ _ us hl => match us, hl with | [_, _, _], _ => rfl
  have FDrw := fun_mk (st := sDraw) lDrw cDrw kDrw
  have bDrw := FDrw.binds (ps := ["_law_script", "_law_k", "_law_many"]) fun _ _ _ _ _ _ us hl => match us, hl with | [_, _, _], _ => rfl
  have FLab := fun_mk (st := sLabel) lLab cLab kLab
  have bLab := FLab.binds (ps := ["_law_number"]) fun _ _ _ _ _ _ us hl => match us, hl with | [_], _ => rfl
  have FLbs := fun_mk (st := sLabels) lLbs cLbs kLbs
  have bLbs := FLbs.binds (ps := ["_law_script", "_law_k"]) fun _ _ _ _ _ _ us hl => match us, hl with | [_, _], _ => rfl
  have FMac := fun_mk (st := sMachine) lMac cMac kMac
  have bMac := FMac.binds (ps := ["_law_script", "_law_k", "_law_size", "_law_labels_here"]) fun _ _ _ _ _ _ us hl => match us, hl with | [_, _, _, _], _ => rfl
  have FWor := fun_mk (st := sWord) lWor cWor kWor
  have bWor := FWor.binds (ps := ["_law_number"]) fun _ _ _ _ _ _ us hl => match us, hl with | [_], _ => rfl
  have FTre := fun_mk (st := sTree) lTre cTre kTre
  have bTre := FTre.binds (ps := ["_law_script", "_law_k", "_law_many", "_law_labels_here"]) fun _ _ _ _ _ _ us hl => match us, hl with | [_, _, _, _], _ => rfl
  have FSte := fun_mk (st := sState) lSte cSte kSte
  have bSte := FSte.binds (ps := ["_law_starts", "_law_steps", "_law_tree_here"]) fun _ _ _ _ _ _ us hl => match us, hl with | [_, _, _], _ => rfl
  have FTex := fun_mk (st := sText) lTex cTex kTex
  have bTex := FTex.binds (ps := ["_law_tree_here"]) fun _ _ _ _ _ _ us hl => match us, hl with | [_], _ => rfl
  have FIsh := fun_mk (st := sIsHead) lIsh cIsh kIsh
  have bIsh := FIsh.binds (ps := ["_law_head"]) fun _ _ _ _ _ _ us hl => match us, hl with | [_], _ => rfl
  have FPar := fun_mk (st := sParsed) lPar cPar kPar
  have bPar := FPar.binds (ps := ["_law_line"]) fun _ _ _ _ _ _ us hl => match us, hl with | [_], _ => rfl
  have FSig := fun_mk (st := sSigns) lSig cSig kSig
  have bSig := FSig.binds (ps := ["_law_script", "_law_k", "_law_line"]) fun _ _ _ _ _ _ us hl => match us, hl with | [_, _, _], _ => rfl
  have FBeg := fun_mk (st := sBegun) lBeg cBeg kBeg
  have bBeg := FBeg.binds (ps := ["_law_reader", "_law_signs_here", "_law_line", "_law_whole"]) fun _ _ _ _ _ _ us hl => match us, hl with | [_, _, _, _], _ => rfl
  have FLaw := fun_mk (st := sLaw) lLaw cLaw kLaw
  have MInn : Meth K C "inner_costs" fInn := ⟨aInn, iInn, kInn⟩
  have MChe : Meth K C "cheapest" fChe := ⟨aChe, iChe, kChe⟩
  have MCls : Meth K C "closes" fCls := ⟨aCls, iCls, kCls⟩
  have MFit : Meth K C "fits" fFit := ⟨aFit, iFit, kFit⟩
  have MTak : Meth K C "take" fTak := ⟨aTak, iTak, kTak⟩
  have MLef : Meth K C "left" fLef := ⟨aLef, iLef, kLef⟩
  have MHin : Meth K C "hint" fHin := ⟨aHin, iHin, kHin⟩
  have gPos := PySem.W.mg_of X G aPos
  have gSta := PySem.W.mg_of X G aSta
  have gFal := PySem.W.mg_of X G aFal
  have gPrd := PySem.W.mg_of X G aPrd
  have gPrs := PySem.W.mg_of X G aPrs
  have gClo := PySem.W.mg_of X G aClo
  have gDrw := PySem.W.mg_of X G aDrw
  have gLab := PySem.W.mg_of X G aLab
  have gLbs := PySem.W.mg_of X G aLbs
  have gMac := PySem.W.mg_of X G aMac
  have gWor := PySem.W.mg_of X G aWor
  have gTre := PySem.W.mg_of X G aTre
  have gSte := PySem.W.mg_of X G aSte
  have gTex := PySem.W.mg_of X G aTex
  have gIsh := PySem.W.mg_of X G aIsh
  have gPar := PySem.W.mg_of X G aPar
  have gSig := PySem.W.mg_of X G aSig
  have gBeg := PySem.W.mg_of X G aBeg
  refine ⟨PySem.W.fnOf "law" "law" (defArgs sLaw) (defBody sLaw) (defScope sLaw) .none kVLaw dcLaw pmLaw anLaw cdLaw ctLaw, fun s v => .of_eq rfl, fun base _ _ => ?_⟩
  have oSta := ok_started (P := l.prog) (w := w) (base := base) FSta FPos bPos gPos m_len
  have oFal := ok_fall (P := l.prog) (w := w) (base := base) FFal m_len m_range
  have oPrd := ok_priced (P := l.prog) (w := w) (base := base) FPrd oSta bSta kSta gSta oFal bFal kFal gFal
  have oPrs := ok_prices (P := l.prog) (w := w) (base := base) FPrs oPrd bPrd kPrd gPrd
  have oClo := ok_closing (P := l.prog) (w := w) (base := base) FClo m_len m_range
  have oInn := ok_inner (P := l.prog) (w := w) (base := base) FInn T oClo bClo kClo gClo
  have oChe := ok_cheapest (P := l.prog) (w := w) (base := base) FChe T oInn bInn MInn
  have oCls := ok_closes (P := l.prog) (w := w) (base := base) FCls T
  have oFit := ok_fits (P := l.prog) (w := w) (base := base) FFit T Gm oInn bInn MInn oChe bChe MChe oCls bCls MCls
  have oTak := ok_take (P := l.prog) (w := w) (base := base) FTak T oInn bInn MInn oFit bFit MFit
  have oLef := ok_left (P := l.prog) (w := w) (base := base) FLef T oChe bChe MChe
  have oHin := ok_hint (P := l.prog) (w := w) (base := base) FHin T oChe bChe MChe oCls bCls MCls oLef bLef MLef
  have oIni := ok_init (P := l.prog) (w := w) (base := base) FIni T m_list oPrs bPrs kPrs gPrs
  have oDrw := ok_draw (P := l.prog) (w := w) (base := base) FDrw m_len
  have oLab := ok_label (P := l.prog) (w := w) (base := base) (mg := mg) FLab
  have oLbs := ok_labels (P := l.prog) (w := w) (base := base) FLbs m_range oDrw bDrw kDrw gDrw oLab bLab kLab gLab
  have oMac := ok_machine (P := l.prog) (w := w) (base := base) FMac m_len m_range m_sorted oDrw bDrw kDrw gDrw
  have oWor := ok_word (P := l.prog) (w := w) (base := base) FWor m_range
  have oTre := ok_tree (P := l.prog) (w := w) (base := base) FTre m_len m_range m_max m_tuple oDrw bDrw kDrw gDrw oWor bWor kWor gWor
  have oSte := ok_state (P := l.prog) (w := w) (base := base) FSte bSte gSte 190
  have oTex := ok_text (P := l.prog) (w := w) (base := base) FTex bTex gTex 9
  have oIsh := ok_isHead (P := l.prog) (w := w) (base := base) FIsh m_len m_all
  have oPar := ok_parsed (P := l.prog) (w := w) (base := base) FPar m_len m_tuple oIsh bIsh kIsh gIsh
  have oSig := ok_signs (P := l.prog) (w := w) (base := base) FSig m_len m_range oDrw bDrw kDrw gDrw
  have oBeg := ok_begun (P := l.prog) (w := w) (base := base) FBeg T oFit bFit MFit oTak bTak MTak
  exact ok_law FLaw T (PySem.W.mg_of X G aC) ⟨mk, aIni, iIni, kc⟩ oIni bIni m_dict m_sorted ⟨oLbs, bLbs, kLbs, gLbs⟩ ⟨oDrw, bDrw, kDrw, gDrw⟩ ⟨oMac, bMac, kMac, gMac⟩ ⟨oTre, bTre, kTre, gTre⟩ ⟨oSte, bSte, kSte, gSte⟩ ⟨oTex, bTex, kTex, gTex⟩ ⟨oSig, bSig, kSig, gSig⟩ ⟨oBeg, bBeg, kBeg, gBeg⟩ ⟨oPar, bPar, kPar, gPar⟩ ⟨oTak, bTak, MTak⟩ ⟨oLef, bLef, MLef⟩ ⟨oHin, bHin, MHin⟩
theorem walk {l : PySem.W.OpenLaw} {q : Program} {loose : List Str} {XP : (Str → Option Value) → Heap → Prop} {YP : World → Heap → Prop} {d : DefRec} {K : Params → PySem.W.Frag} (hn : l.most = some 63) (hdf : d.params.defaults = [])
    (hY : ∀ (w : World) (h : Heap), YP w h → (K w.params).In h)
    (F : ∀ (w : World) (mg : Str → Option Value) (fa : Addr) (h : Heap), (K w.params).In h → h.Ns mainGlobals mg → mg d.name = some (.ref fa) →
      ∃ fd : FuncData, (∀ (s : Shared) (u : Value), BindsTo s fd ⟨[u], []⟩ [("_law_script", u)]) ∧ ∀ base : Heap, (K w.params).In base → base.Ns mainGlobals mg → FnOk l.prog w (K w.params) mg base CX0 191 fa fd ["_law_script"] (spLaw (K w.params))) :
    PySem.W.WalkO q loose XP YP l.row.toRowW d [] (fun f vs => PySem.call f vs) :=
  L2.walk_of (n := 63) (k := 191) (x := "_law_script") (CX := fun _ => CX0) (sp := fun w => spLaw (K w.params)) hn (by decide) hdf ⟨rfl, by decide, by decide⟩ hY F (fun _ _ a ns hl _ hS => ⟨a, ns, rfl, hS, hl, fun _ => rfl⟩) fun _ _ _ _ _ z => z
end Wd
open PySem PySem.W PyProof.Rows in
set_option maxRecDepth 100000 in
set_option maxHeartbeats 0 in
theorem PySem.Challenge.cw_warden_k40_whole_endings_holds : PySem.Challenge.rw_warden_k40_whole_endings.Holds := by
  w_on; o_law; k_head; (case hw => w_witness2)
  k_fill
  refine Wd.walk (l := PySem.Challenge.rw_warden_k40_whole_endings) rfl rfl (fun w h Y => PySem.W.kIn_of Y) ?F
  case F =>
    intro w mg fa h KX G hmg
    refine' Wd.all_mk KX G hmg ?aC ?aIni ?iIni ?lIni ?cIni ?kIni ?aInn ?iInn ?lInn ?cInn ?kInn ?aChe ?iChe ?lChe ?cChe ?kChe ?aCls ?iCls ?lCls ?cCls ?kCls ?aFit ?iFit ?lFit ?cFit ?kFit ?aTak ?iTak ?lTak ?cTak ?kTak ?aLef ?iLef ?lLef ?cLef ?kLef ?aHin ?iHin ?lHin ?cHin ?kHin ?aPos ?lPos ?cPos ?kPos ?aSta ?lSta ?cSta ?kSta ?aFal ?lFal ?cFal ?kFal ?aPrd ?lPrd ?cPrd ?kPrd ?aPrs ?lPrs ?cPrs ?kPrs ?aClo ?lClo ?cClo ?kClo ?aDrw ?lDrw ?cDrw ?kDrw ?aLab ?lLab ?cLab ?kLab ?aLbs ?lLbs ?cLbs ?kLbs ?aMac ?lMac ?cMac ?kMac ?aWor ?lWor ?cWor ?kWor ?aTre ?lTre ?cTre ?kTre ?aSte ?lSte ?cSte ?kSte ?aTex ?lTex ?cTex ?kTex ?aIsh ?lIsh ?cIsh ?kIsh ?aPar ?lPar ?cPar ?kPar ?aSig ?lSig ?cSig ?kSig ?aBeg ?lBeg ?cBeg ?kBeg ?aLaw ?lLaw ?cLaw ?kLaw ?pg ?hd ?po ?sa ?mk ?kc ?n_starts ?n_steps ?n_good ?n_prices ?n_states ?n_costs ?n_inner ?n_head ?n_signs ?n_whole ?z_len ?z_range ?z_list ?z_sorted ?z_max ?z_tuple ?z_all ?z_dict ?gSm ?gSw ?gMw
    (case aC => k_is)
    (case aIni => k_is)
    (case iIni => k_is)
    (case lIni => k_is)
    (case cIni => k_is)
    (case kIni => k_is)
    (case aInn => k_is)
    (case iInn => k_is)
    (case lInn => k_is)
    (case cInn => k_is)
    (case kInn => k_is)
    (case aChe => k_is)
    (case iChe => k_is)
    (case lChe => k_is)
    (case cChe => k_is)
    (case kChe => k_is)
    (case aCls => k_is)
    (case iCls => k_is)
    (case lCls => k_is)
    (case cCls => k_is)
    (case kCls => k_is)
    (case aFit => k_is)
    (case iFit => k_is)
    (case lFit => k_is)
    (case cFit => k_is)
    (case kFit => k_is)
    (case aTak => k_is)
    (case iTak => k_is)
    (case lTak => k_is)
    (case cTak => k_is)
    (case kTak => k_is)
    (case aLef => k_is)
    (case iLef => k_is)
    (case lLef => k_is)
    (case cLef => k_is)
    (case kLef => k_is)
    (case aHin => k_is)
    (case iHin => k_is)
    (case lHin => k_is)
    (case cHin => k_is)
    (case kHin => k_is)
    (case aPos => k_is)
    (case lPos => k_is)
    (case cPos => k_is)
    (case kPos => k_is)
    (case aSta => k_is)
    (case lSta => k_is)
    (case cSta => k_is)
    (case kSta => k_is)
    (case aFal => k_is)
    (case lFal => k_is)
    (case cFal => k_is)
    (case kFal => k_is)
    (case aPrd => k_is)
    (case lPrd => k_is)
    (case cPrd => k_is)
    (case kPrd => k_is)
    (case aPrs => k_is)
    (case lPrs => k_is)
    (case cPrs => k_is)
    (case kPrs => k_is)
    (case aClo => k_is)
    (case lClo => k_is)
    (case cClo => k_is)
    (case kClo => k_is)
    (case aDrw => k_is)
    (case lDrw => k_is)
    (case cDrw => k_is)
    (case kDrw => k_is)
    (case aLab => k_is)
    (case lLab => k_is)
    (case cLab => k_is)
    (case kLab => k_is)
    (case aLbs => k_is)
    (case lLbs => k_is)
    (case cLbs => k_is)
    (case kLbs => k_is)
    (case aMac => k_is)
    (case lMac => k_is)
    (case cMac => k_is)
    (case kMac => k_is)
    (case aWor => k_is)
    (case lWor => k_is)
    (case cWor => k_is)
    (case kWor => k_is)
    (case aTre => k_is)
    (case lTre => k_is)
    (case cTre => k_is)
    (case kTre => k_is)
    (case aSte => k_is)
    (case lSte => k_is)
    (case cSte => k_is)
    (case kSte => k_is)
    (case aTex => k_is)
    (case lTex => k_is)
    (case cTex => k_is)
    (case kTex => k_is)
    (case aIsh => k_is)
    (case lIsh => k_is)
    (case cIsh => k_is)
    (case kIsh => k_is)
    (case aPar => k_is)
    (case lPar => k_is)
    (case cPar => k_is)
    (case kPar => k_is)
    (case aSig => k_is)
    (case lSig => k_is)
    (case cSig => k_is)
    (case kSig => k_is)
    (case aBeg => k_is)
    (case lBeg => k_is)
    (case cBeg => k_is)
    (case kBeg => k_is)
    (case aLaw => k_is)
    (case lLaw => k_is)
    (case cLaw => k_is)
    (case kLaw => k_is)
    (case pg => k_is)
    (case hd => k_is)
    (case po => k_is)
    (case sa => k_is)
    (case mk => k_is)
    (case kc => k_is)
    (case n_starts => k_is)
    (case n_steps => k_is)
    (case n_good => k_is)
    (case n_prices => k_is)
    (case n_states => k_is)
    (case n_costs => k_is)
    (case n_inner => k_is)
    (case n_head => k_is)
    (case n_signs => k_is)
    (case n_whole => k_is)
    (case z_len => k_is)
    (case z_range => k_is)
    (case z_list => k_is)
    (case z_sorted => k_is)
    (case z_max => k_is)
    (case z_tuple => k_is)
    (case z_all => k_is)
    (case z_dict => k_is)
    (case gSm => k_is)
    (case gSw => k_is)
    (case gMw => k_is)
