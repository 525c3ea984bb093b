import PyProof.Rows.All
import Wide.All
import OpenK.AllK
import Wide.FinOn
import HandS.ForMost
import HandS.Walk
import HandS.Evl
import HandS.Style
import HandS.SortRule
import HandS.SortInts
import HandS.IsInst
import HandS.Conv
import HandS.Wide
import HandS.TupAny
import HandS.Strs
import HandS.SetFor
import HandS.DictTup
import KE.KDictWalk
import KE.KDictCopyH
import KE.KDictPairs
import KE.KDictKeyed
import PySem.Challenge.RW_fateboards_k27_whole_strips
import KE.KDictDisplayH
set_option Elab.async false
set_option linter.all false
set_option maxRecDepth 100000
set_option maxHeartbeats 4000000
/-! # MA -/
namespace M
open Lean.Grind
section
variable {α : Type} [CommRing α]

/-- the sum of f over i < n -/
def sm (n : Nat) (f : Nat → α) : α := match n with
  | 0 => 0
  | n + 1 => sm n f + f n
theorem sm_zero (f : Nat → α) : sm 0 f = 0 := rfl
theorem sm_succ (n : Nat) (f : Nat → α) : sm (n + 1) f = sm n f + f n := rfl
theorem sm_congr {n : Nat} {f g : Nat → α} (h : ∀ i, i < n → f i = g i) : sm n f = sm n g := by
  induction n with
  | zero => rfl
  | succ n ih => rw [sm_succ, sm_succ, ih (fun i hi => h i (by omega)), h n (by omega)]
theorem sm_add (n : Nat) (f g : Nat → α) : sm n (fun i => f i + g i) = sm n f + sm n g := by
  induction n with
  | zero => rw [sm_zero, sm_zero, sm_zero]; grind
  | succ n ih => rw [sm_succ, sm_succ, sm_succ, ih]; grind
theorem sm_mul (n : Nat) (a : α) (f : Nat → α) : sm n (fun i => a * f i) = a * sm n f := by
  induction n with
  | zero => rw [sm_zero, sm_zero]; grind
  | succ n ih => rw [sm_succ, sm_succ, ih]; grind
theorem sm_sub (n : Nat) (f g : Nat → α) : sm n (fun i => f i - g i) = sm n f - sm n g := by
  induction n with
  | zero => rw [sm_zero, sm_zero, sm_zero]; grind
  | succ n ih => rw [sm_succ, sm_succ, sm_succ, ih]; grind
theorem sm_z (n : Nat) {f : Nat → α} (h : ∀ i, i < n → f i = 0) : sm n f = 0 := by
  induction n with
  | zero => rfl
  | succ n ih => rw [sm_succ, ih (fun i hi => h i (by omega)), h n (by omega)]; grind
theorem sm_swap (n m : Nat) (f : Nat → Nat → α) : sm n (fun i => sm m (fun j => f i j)) = sm m (fun j => sm n (fun i => f i j)) := by
  induction n with
  | zero => rw [sm_zero]; exact (sm_z m (fun _ _ => rfl)).symm
  | succ n ih =>
    rw [sm_succ, ih, ← sm_add]
    rfl
theorem sm_one (n k : Nat) (hk : k < n) (f : Nat → α) : sm n (fun i => if i = k then f i else 0) = f k := by
  induction n with
  | zero => omega
  | succ n ih =>
    rw [sm_succ]
    by_cases e : k = n
    · subst e
      rw [sm_z k (fun i hi => if_neg (by omega)), if_pos rfl]; grind
    · rw [ih (by omega), if_neg (by omega)]; grind
theorem sm_head (n : Nat) (f : Nat → α) : sm (n + 1) f = f 0 + sm n (fun i => f (i + 1)) := by
  induction n with
  | zero => rw [sm_succ, sm_zero, sm_zero]; grind
  | succ n ih => rw [sm_succ, ih, sm_succ]; grind
theorem sm_rev (n : Nat) (f : Nat → α) : sm n (fun i => f (n - 1 - i)) = sm n f := by
  induction n with
  | zero => rfl
  | succ n ih =>
    rw [sm_head, sm_succ, ← ih]
    have e : sm n (fun i => f (n + 1 - 1 - (i + 1))) = sm n (fun i => f (n - 1 - i)) := sm_congr fun i hi => by
      congr 1; omega
    rw [e]
    show f (n + 1 - 1 - 0) + _ = _
    rw [show n + 1 - 1 - 0 = n by omega]; grind
theorem sm_ext {n m : Nat} (h : n ≤ m) {f : Nat → α} (hz : ∀ i, n ≤ i → i < m → f i = 0) : sm m f = sm n f := by
  induction m with
  | zero => rw [show n = 0 by omega]
  | succ m ih =>
    by_cases e : n = m + 1
    · rw [e]
    · rw [sm_succ, ih (by omega) (fun i h1 h2 => hz i h1 (by omega)), hz m (by omega) (by omega)]; grind

/-! ### recurrences -/
/-- t goes by the factors e, of L places -/
def Rec (e : Nat → α) (L : Nat) (t : Nat → α) : Prop := ∀ m, t (m + L) = sm L (fun j => e j * t (m + j))
theorem Rec.add {e : Nat → α} {L : Nat} {t u : Nat → α} (h : Rec e L t) (k : Rec e L u) : Rec e L (fun m => t m + u m) := fun m => by
  show t (m + L) + u (m + L) = _
  rw [h m, k m, ← sm_add]
  exact sm_congr fun j _ => by grind
theorem Rec.smul {e : Nat → α} {L : Nat} {t : Nat → α} (a : α) (h : Rec e L t) : Rec e L (fun m => a * t m) := fun m => by
  show a * t (m + L) = _
  rw [h m, ← sm_mul]
  exact sm_congr fun j _ => by grind
theorem Rec.sub {e : Nat → α} {L : Nat} {t u : Nat → α} (h : Rec e L t) (k : Rec e L u) : Rec e L (fun m => t m - u m) := fun m => by
  show t (m + L) - u (m + L) = _
  rw [h m, k m, ← sm_sub]
  exact sm_congr fun j _ => by grind
theorem Rec.shift {e : Nat → α} {L : Nat} {t : Nat → α} (k : Nat) (h : Rec e L t) : Rec e L (fun m => t (m + k)) := fun m => by
  show t (m + L + k) = _
  rw [show m + L + k = (m + k) + L by omega, h (m + k)]
  exact sm_congr fun j _ => by rw [show m + k + j = m + j + k by omega]
theorem Rec.zeroS {e : Nat → α} {L : Nat} : Rec e L (fun _ => (0 : α)) := fun m => by
  rw [sm_z L (fun i _ => by grind)]
theorem Rec.sums {e : Nat → α} {L : Nat} (n : Nat) {t : Nat → Nat → α} (h : ∀ i, i < n → Rec e L (t i)) : Rec e L (fun m => sm n (fun i => t i m)) := by
  induction n with
  | zero => exact Rec.zeroS
  | succ n ih => exact (ih fun i hi => h i (by omega)).add (h n (by omega))
theorem Rec.zero {e : Nat → α} {L : Nat} {t : Nat → α} (h : Rec e L t) (h0 : ∀ m, m < L → t m = 0) : ∀ m, t m = 0 := by
  intro m
  induction m using Nat.strongRecOn with
  | ind m ih =>
    by_cases hm : m < L
    · exact h0 m hm
    · have e := h (m - L)
      rw [show m - L + L = m by omega] at e
      rw [e]
      exact sm_z L fun j hj => by rw [ih (m - L + j) (by omega)]; grind

/-- what is missed at n by the factors c, of l places, the nearest first (n ≥ l) -/
def dsc (s : Nat → α) (c : Nat → α) (l n : Nat) : α := s n - sm l (fun i => c i * s (n - 1 - i))
theorem dsc_rec {e : Nat → α} {L : Nat} {s : Nat → α} (h : Rec e L s) (c : Nat → α) (l : Nat) : Rec e L (fun m => dsc s c l (m + l)) := by
  have h1 : Rec e L (fun m => s (m + l) - sm l (fun i => c i * s (m + (l - 1 - i)))) :=
    (h.shift l).sub (Rec.sums l fun i _ => (h.shift (l - 1 - i)).smul (c i))
  have e1 : (fun m => dsc s c l (m + l)) = (fun m => s (m + l) - sm l (fun i => c i * s (m + (l - 1 - i)))) := by
    funext m
    unfold dsc
    rw [sm_congr (f := fun i => c i * s (m + l - 1 - i)) (g := fun i => c i * s (m + (l - 1 - i))) fun i hi => by
      rw [show m + l - 1 - i = m + (l - 1 - i) by omega]]
  rw [e1]; exact h1
/-- two rules that agree long enough agree for ever -/
theorem uniq {e : Nat → α} {L : Nat} {s : Nat → α} (h : Rec e L s) (c : Nat → α) (l : Nat) (h0 : ∀ n, l ≤ n → n < l + L → dsc s c l n = 0) : ∀ n, l ≤ n → dsc s c l n = 0 := fun n hn => by
  have := (dsc_rec h c l).zero (fun m hm => h0 (m + l) (by omega) (by omega)) (n - l)
  rw [show n - l + l = n by omega] at this
  exact this
end
end M

/-! # MB -/
namespace M
open Lean.Grind
section
variable {α : Type} [CommRing α]
/-- what is made of the vectors in G, by n coordinates -/
inductive Spn (n : Nat) (G : (Nat → α) → Prop) : (Nat → α) → Prop
  | zero : Spn n G (fun _ => 0)
  | gen {v : Nat → α} : G v → Spn n G v
  | add {x y : Nat → α} : Spn n G x → Spn n G y → Spn n G (fun i => x i + y i)
  | smul {x : Nat → α} (a : α) : Spn n G x → Spn n G (fun i => a * x i)
  | eqv {x y : Nat → α} : Spn n G x → (∀ i, i < n → x i = y i) → Spn n G y
theorem Spn.trans {n : Nat} {G G' : (Nat → α) → Prop} (hG : ∀ v, G v → Spn n G' v) {x : Nat → α} (h : Spn n G x) : Spn n G' x := by
  induction h with
  | zero => exact .zero
  | gen h => exact hG _ h
  | add _ _ h1 h2 => exact .add h1 h2
  | smul a _ h => exact .smul a h
  | eqv _ e h => exact .eqv h e
/-- a coordinate more, at which all are zero -/
theorem Spn.more {n : Nat} {G : (Nat → α) → Prop} (hG : ∀ v, G v → v n = 0) {x : Nat → α} (h : Spn n G x) : ∃ y, Spn (n + 1) G y ∧ y n = 0 ∧ ∀ i, i < n → y i = x i := by
  induction h with
  | zero => exact ⟨_, .zero, rfl, fun _ _ => rfl⟩
  | gen h => exact ⟨_, .gen h, hG _ h, fun _ _ => rfl⟩
  | add _ _ h1 h2 =>
    obtain ⟨y1, a1, b1, c1⟩ := h1
    obtain ⟨y2, a2, b2, c2⟩ := h2
    refine ⟨_, .add a1 a2, ?_, fun i hi => ?_⟩
    · show y1 n + y2 n = 0
      rw [b1, b2]; grind
    · show y1 i + y2 i = _
      rw [c1 i hi, c2 i hi]
  | smul a _ h =>
    obtain ⟨y, a1, b1, c1⟩ := h
    refine ⟨_, .smul a a1, ?_, fun i hi => ?_⟩
    · show a * y n = 0
      rw [b1]; grind
    · show a * y i = _
      rw [c1 i hi]
  | eqv _ e h =>
    obtain ⟨y, a1, b1, c1⟩ := h
    exact ⟨y, a1, b1, fun i hi => (c1 i hi).trans (e i hi)⟩
/-- of n + 1 vectors of n coordinates one is made of those ahead of it -/
theorem dep (hinv : ∀ x : α, x ≠ 0 → ∃ y, x * y = 1) : ∀ (n : Nat) (v : Nat → Nat → α), ∃ k, k ≤ n ∧ Spn n (fun x => ∃ j, j < k ∧ x = v j) (v k) := by
  intro n
  induction n with
  | zero => exact fun v => ⟨0, Nat.le_refl _, .eqv .zero fun i hi => absurd hi (Nat.not_lt_zero _)⟩
  | succ n ih =>
    intro v
    by_cases hz : ∃ j, j ≤ n + 1 ∧ v j n ≠ 0
    · -- the first one with something at n
      obtain ⟨j0, h0, hne, hmin⟩ : ∃ j0, j0 ≤ n + 1 ∧ v j0 n ≠ 0 ∧ ∀ j, j < j0 → v j n = 0 := by
        obtain ⟨j, hj, hv⟩ := hz
        induction j using Nat.strongRecOn with
        | ind j ih2 =>
          by_cases h : ∃ i, i < j ∧ v i n ≠ 0
          · obtain ⟨i, hi, hvi⟩ := h
            exact ih2 i hi (by omega) hvi
          · exact ⟨j, hj, hv, fun i hi => Classical.byContradiction fun q => h ⟨i, hi, q⟩⟩
      obtain ⟨r, hr⟩ := hinv _ hne
      let w : Nat → Nat → α := fun j => if j < j0 then v j else fun i => v (j + 1) i + (-(v (j + 1) n * r)) * v j0 i
      obtain ⟨k, hk, hs⟩ := ih w
      have hw0 : ∀ j, w j n = 0 := fun j => by
        show (if j < j0 then v j else fun i => v (j + 1) i + (-(v (j + 1) n * r)) * v j0 i) n = 0
        by_cases h : j < j0
        · rw [if_pos h]; exact hmin j h
        · rw [if_neg h]
          show v (j + 1) n + (-(v (j + 1) n * r)) * v j0 n = 0
          have : v (j + 1) n + (-(v (j + 1) n * r)) * v j0 n = v (j + 1) n - v (j + 1) n * (v j0 n * r) := by grind
          rw [this, hr]; grind
      obtain ⟨y, hy, hyn, hyi⟩ := hs.more (fun x ⟨j, _, e⟩ => by rw [e]; exact hw0 j)
      have hs' : Spn (n + 1) (fun x => ∃ j, j < k ∧ x = w j) (w k) := .eqv hy fun i hi => by
        by_cases h : i = n
        · rw [h, hyn, hw0]
        · exact hyi i (by omega)
      by_cases hkj : k < j0
      · refine ⟨k, by omega, ?_⟩
        have e : w k = v k := if_pos hkj
        rw [← e]
        refine hs'.trans fun x ⟨j, hj, ex⟩ => .gen ⟨j, hj, ?_⟩
        rw [ex]
        exact if_pos (by omega)
      · refine ⟨k + 1, by omega, ?_⟩
        have gj : ∀ j, j < k + 1 → Spn (n + 1) (fun x => ∃ j, j < k + 1 ∧ x = v j) (v j) := fun j hj => .gen ⟨j, hj, rfl⟩
        have h1 : Spn (n + 1) (fun x => ∃ j, j < k + 1 ∧ x = v j) (w k) := by
          refine hs'.trans fun x ⟨j, hj, ex⟩ => ?_
          rw [ex]
          by_cases h : j < j0
          · have e : w j = v j := if_pos h
            rw [e]; exact gj j (by omega)
          · have e : w j = fun i => v (j + 1) i + (-(v (j + 1) n * r)) * v j0 i := if_neg h
            rw [e]
            exact .add (gj (j + 1) (by omega)) (.smul _ (gj j0 (by omega)))
        have e : w k = fun i => v (k + 1) i + (-(v (k + 1) n * r)) * v j0 i := if_neg hkj
        rw [e] at h1
        refine .eqv (.add h1 (.smul (v (k + 1) n * r) (gj j0 (by omega)))) fun i _ => ?_
        show v (k + 1) i + (-(v (k + 1) n * r)) * v j0 i + (v (k + 1) n * r) * v j0 i = v (k + 1) i
        grind
    · have hz' : ∀ j, j ≤ n + 1 → v j n = 0 := fun j hj => Classical.byContradiction fun q => hz ⟨j, hj, q⟩
      obtain ⟨k, hk, hs⟩ := ih v
      obtain ⟨y, hy, hyn, hyi⟩ := hs.more (fun x ⟨j, hj, e⟩ => by rw [e]; exact hz' j (by omega))
      refine ⟨k, by omega, .eqv hy fun i hi => ?_⟩
      by_cases h : i = n
      · rw [h, hyn, hz' k (by omega)]
      · exact hyi i (by omega)
/-- what is made of v 0 .. v (k-1), by factors -/
theorem Spn.factors {n k : Nat} {v : Nat → Nat → α} {x : Nat → α} (h : Spn n (fun x => ∃ j, j < k ∧ x = v j) x) : ∃ e : Nat → α, ∀ i, i < n → x i = sm k (fun j => e j * v j i) := by
  induction h with
  | zero => exact ⟨fun _ => 0, fun i _ => (sm_z k fun _ _ => by grind).symm⟩
  | gen h =>
    obtain ⟨j, hj, rfl⟩ := h
    refine ⟨fun i => if i = j then 1 else 0, fun i _ => ?_⟩
    rw [sm_congr (g := fun i' => if i' = j then v i' i else 0) fun i' _ => by split <;> grind]
    exact (sm_one k j hj fun i' => v i' i).symm
  | add _ _ h1 h2 =>
    obtain ⟨e1, a1⟩ := h1
    obtain ⟨e2, a2⟩ := h2
    refine ⟨fun j => e1 j + e2 j, fun i hi => ?_⟩
    dsimp only
    rw [a1 i hi, a2 i hi, ← sm_add]
    exact sm_congr fun j _ => by grind
  | smul a _ h =>
    obtain ⟨e, a1⟩ := h
    refine ⟨fun j => a * e j, fun i hi => ?_⟩
    dsimp only
    rw [a1 i hi, ← sm_mul]
    exact sm_congr fun j _ => by grind
  | eqv _ q h =>
    obtain ⟨e, a1⟩ := h
    exact ⟨e, fun i hi => (q i hi).symm.trans (a1 i hi)⟩

/-! ### the shortest rule -/
/-- the factors of a list -/
def fct (l : List α) : Nat → α := fun i => l.getD i 0
/-- what the turns keep: `N` numbers looked at -/
structure BM (s : Nat → α) (N : Nat) (rule old : List α) (gap : Nat) (last : α) : Prop where
  le : rule.length ≤ N
  ok : ∀ n, rule.length ≤ n → n < N → dsc s (fct rule) rule.length n = 0
  gp : gap + old.length + rule.length = N + 1
  g1 : 1 ≤ gap
  chg : (rule = [] ∧ old = [] ∧ last = 1) ∨
    (gap ≤ N ∧ last ≠ 0 ∧ old.length ≤ N - gap ∧ (∀ n, old.length ≤ n → n < N - gap → dsc s (fct old) old.length n = 0) ∧ dsc s (fct old) old.length (N - gap) = last)
theorem BM.start (s : Nat → α) : BM s 0 [] [] 1 1 := ⟨Nat.le_refl _, fun _ _ h => absurd h (Nat.not_lt_zero _), rfl, Nat.le_refl _, .inl ⟨rfl, rfl, rfl⟩⟩
theorem BM.same {s : Nat → α} {N gap : Nat} {rule old : List α} {last : α} (h : BM s N rule old gap last) (hm : dsc s (fct rule) rule.length N = 0) : BM s (N + 1) rule old (gap + 1) last := by
  obtain ⟨le, ok, gp, g1, chg⟩ := h
  refine ⟨by omega, fun n h1 h2 => ?_, by omega, by omega, ?_⟩
  · by_cases e : n = N
    · rw [e]; exact hm
    · exact ok n h1 (by omega)
  · rcases chg with c | ⟨c1, c2, c3, c4, c5⟩
    · exact .inl c
    · refine .inr ⟨by omega, c2, ?_, ?_, ?_⟩
      · rw [show N + 1 - (gap + 1) = N - gap by omega]; exact c3
      · rw [show N + 1 - (gap + 1) = N - gap by omega]; exact c4
      · rw [show N + 1 - (gap + 1) = N - gap by omega]; exact c5
/-- the rule made greater: at each place what is there -/
def Grown (rule old grown : List α) (gap : Nat) (part : α) : Prop :=
  grown.length = max rule.length (gap + old.length) ∧
  ∀ i, i < grown.length → fct grown i = fct rule i + (if i = gap - 1 then part else 0) - (if gap ≤ i then part * fct old (i - gap) else 0)
theorem fct_out {l : List α} {i : Nat} (h : l.length ≤ i) : fct l i = 0 := by
  unfold fct
  rw [List.getD_eq_getElem?_getD, List.getElem?_eq_none h]; rfl
theorem sm_gap (g m n : Nat) (h : g + m ≤ n) (f : Nat → α) (hz : ∀ i, m ≤ i → f i = 0) : sm n (fun i => if g ≤ i then f (i - g) else 0) = sm m f := by
  induction g generalizing n with
  | zero =>
    rw [sm_congr (g := f) fun i _ => by rw [if_pos (Nat.zero_le _), Nat.sub_zero]]
    exact sm_ext (by omega) fun i h1 _ => hz i h1
  | succ g ih =>
    obtain ⟨n, rfl⟩ : ∃ k, n = k + 1 := ⟨n - 1, by omega⟩
    rw [sm_head, if_neg (by omega), ← ih n (by omega)]
    rw [sm_congr (g := fun i => if g ≤ i then f (i - g) else 0) fun i _ => by
      by_cases h : g ≤ i
      · rw [if_pos (by omega), if_pos h, show i + 1 - (g + 1) = i - g by omega]
      · rw [if_neg (by omega), if_neg h]]
    grind
theorem dsc_grown {s : Nat → α} {rule old grown : List α} {gap : Nat} {part : α} (g1 : 1 ≤ gap) (h : Grown rule old grown gap part) (n : Nat) (hn : grown.length ≤ n) :
    dsc s (fct grown) grown.length n = dsc s (fct rule) rule.length n - part * dsc s (fct old) old.length (n - gap) := by
  obtain ⟨hl, hg⟩ := h
  unfold dsc
  have hr : rule.length ≤ grown.length := by omega
  have ho : gap + old.length ≤ grown.length := by omega
  rw [sm_congr (g := fun i => (fct rule i * s (n - 1 - i) + (if i = gap - 1 then part * s (n - 1 - i) else 0)) - (if gap ≤ i then part * (fct old (i - gap) * s (n - gap - 1 - (i - gap))) else 0)) fun i hi => by
    rw [hg i hi]
    by_cases h : gap ≤ i
    · rw [if_pos h, if_pos h, if_neg (by omega), if_neg (by omega), show n - gap - 1 - (i - gap) = n - 1 - i by omega]; grind
    · rw [if_neg h, if_neg h]
      split <;> grind]
  rw [sm_sub, sm_add, sm_one grown.length (gap - 1) (by omega) (fun i => part * s (n - 1 - i)),
    sm_ext hr (f := fun i => fct rule i * s (n - 1 - i)) (fun i h1 _ => by rw [fct_out h1]; grind),
    sm_gap gap old.length grown.length ho (fun i => part * (fct old i * s (n - gap - 1 - i))) (fun i hi => by rw [fct_out hi]; grind),
    sm_mul, show n - 1 - (gap - 1) = n - gap by omega]
  grind
theorem BM.step {s : Nat → α} {N gap : Nat} {rule old grown : List α} {last part : α} (h : BM s N rule old gap last) (hm : dsc s (fct rule) rule.length N ≠ 0)
    (hp : part * last = dsc s (fct rule) rule.length N) (hg : Grown rule old grown gap part) :
    (2 * rule.length ≤ N → grown.length = N + 1 - rule.length ∧ BM s (N + 1) grown rule 1 (dsc s (fct rule) rule.length N)) ∧
    (¬ 2 * rule.length ≤ N → grown.length = rule.length ∧ BM s (N + 1) grown old (gap + 1) last) := by
  obtain ⟨le, ok, gp, g1, chg⟩ := h
  have hl := hg.1
  have gok : ∀ n, grown.length ≤ n → n < N + 1 → dsc s (fct grown) grown.length n = 0 := fun n h1 h2 => by
    rcases chg with ⟨c1, c2, c3⟩ | ⟨c1, c2, c3, c4, c5⟩
    · exfalso
      rw [c1, c2] at gp hl
      simp only [List.length_nil] at gp hl
      omega
    · rw [dsc_grown g1 hg n h1]
      by_cases en : n = N
      · rw [en, c5, hp]; grind
      · rw [ok n (by omega) (by omega), c4 (n - gap) (by omega) (by omega)]; grind
  refine ⟨fun h2 => ?_, fun h2 => ?_⟩
  · have hgl : grown.length = N + 1 - rule.length := by omega
    refine ⟨hgl, ⟨by omega, gok, by omega, Nat.le_refl _, .inr ⟨by omega, hm, ?_, ?_, ?_⟩⟩⟩
    · show rule.length ≤ N + 1 - 1; omega
    · exact fun n h1 h2 => ok n h1 (by omega)
    · rfl
  · have hgl : grown.length = rule.length := by omega
    refine ⟨hgl, ⟨by omega, gok, by omega, by omega, ?_⟩⟩
    rcases chg with ⟨c1, c2, c3⟩ | ⟨c1, c2, c3, c4, c5⟩
    · exfalso
      rw [c1] at h2
      exact h2 (Nat.zero_le _)
    · rw [show N + 1 - (gap + 1) = N - gap by omega]
      exact .inr ⟨by omega, c2, c3, c4, c5⟩
/-- the rule is never longer than the true one -/
theorem BM.short {s : Nat → α} {e : Nat → α} {L : Nat} (hr : Rec e L s) {N gap : Nat} {rule old : List α} {last : α} (h : BM s N rule old gap last) (hm : dsc s (fct rule) rule.length N ≠ 0) : N + 1 ≤ L + rule.length :=
  Classical.byContradiction fun q => hm (uniq hr (fct rule) rule.length (fun n h1 h2 => h.ok n h1 (by omega)) N h.le)
theorem BM.done {s : Nat → α} {e : Nat → α} {L : Nat} (hr : Rec e L s) {N gap : Nat} {rule old : List α} {last : α} (h : BM s N rule old gap last) (hN : L + rule.length ≤ N) : ∀ n, rule.length ≤ n → dsc s (fct rule) rule.length n = 0 :=
  uniq hr (fct rule) rule.length fun n h1 h2 => h.ok n h1 (by omega)

/-! ### far places -/
/-- what a row of factors tells at n -/
def tell (s : Nat → α) (row : List α) (n : Nat) : α := sm row.length (fun i => fct row i * s (n + i))
/-- a row of factors stands for the e-th place -/
def Stands (s : Nat → α) (size : Nat) (row : List α) (e : Nat) : Prop := row.length = size ∧ ∀ n, tell s row n = s (n + e)
theorem stands_one {s : Nat → α} {size : Nat} {row : List α} (hl : row.length = size) (hs : 0 < size) (h : ∀ i, i < size → fct row i = if i = 0 then 1 else 0) : Stands s size row 0 := ⟨hl, fun n => by
  unfold tell
  rw [sm_congr (g := fun i => if i = 0 then s (n + i) else 0) fun i hi => by
    rw [h i (by omega)]; split <;> grind]
  exact sm_one row.length 0 (by omega) (fun i => s (n + i))⟩
theorem stands_step {s : Nat → α} {size e : Nat} {rule row out : List α} (hr : rule.length = size) (hs : 0 < size) (hd : ∀ n, size ≤ n → dsc s (fct rule) size n = 0) (h : Stands s size row e) (hl : out.length = size)
    (ho : ∀ i, i < size → fct out i = (if 0 < i then fct row (i - 1) else 0) + fct row (size - 1) * fct rule (size - 1 - i)) : Stands s size out (e + 1) := ⟨hl, fun n => by
  obtain ⟨hrl, ht⟩ := h
  have h1 := ht (n + 1)
  unfold tell at h1 ⊢
  rw [hrl] at h1
  obtain ⟨k, rfl⟩ : ∃ k, size = k + 1 := ⟨size - 1, by omega⟩
  rw [hl, sm_congr (g := fun i => (if 1 ≤ i then fct row (i - 1) * s (n + 1 + (i - 1)) else 0) + fct row k * (fct rule (k - i) * s (n + (k + 1) - 1 - (k - i)))) fun i hi => by
    rw [ho i hi, show n + (k + 1) - 1 - (k - i) = n + i by omega, show k + 1 - 1 - i = k - i by omega, show k + 1 - 1 = k by omega]
    by_cases h : 1 ≤ i
    · rw [if_pos (by omega), if_pos h, show n + 1 + (i - 1) = n + i by omega]; grind
    · rw [if_neg (by omega), if_neg h]; grind]
  rw [sm_add, sm_mul]
  have e2 : sm (k + 1) (fun i => fct rule (k - i) * s (n + (k + 1) - 1 - (k - i))) = s (n + (k + 1)) := by
    have e3 := sm_rev (k + 1) (fun i => fct rule i * s (n + (k + 1) - 1 - i))
    have e4 := hd (n + (k + 1)) (by omega)
    unfold dsc at e4
    have e5 : sm (k + 1) (fun i => fct rule (k + 1 - 1 - i) * s (n + (k + 1) - 1 - (k + 1 - 1 - i))) = sm (k + 1) (fun i => fct rule (k - i) * s (n + (k + 1) - 1 - (k - i))) := rfl
    rw [← e5, e3]
    grind
  rw [e2]
  have e6 : sm (k + 1) (fun i => if 1 ≤ i then fct row (i - 1) * s (n + 1 + (i - 1)) else 0) = sm k (fun i => fct row i * s (n + 1 + i)) := by
    rw [sm_head, if_neg (by omega), sm_congr (g := fun i => fct row i * s (n + 1 + i)) fun i _ => by rw [if_pos (by omega)]; rfl]
    grind
  rw [e6, show n + (k + 1) = n + 1 + k by omega]
  rw [sm_succ] at h1
  rw [show n + (e + 1) = n + 1 + e by omega, ← h1]⟩
theorem stands_times {s : Nat → α} {size e1 e2 : Nat} {one two out : List α} (h1 : Stands s size one e1) (h2 : Stands s size two e2) (hl : out.length = size)
    (ho : ∀ n, tell s out n = sm size (fun k => fct two k * tell s one (n + k))) : Stands s size out (e1 + e2) := ⟨hl, fun n => by
  rw [ho, sm_congr (g := fun k => fct two k * s (n + e1 + k)) fun k _ => by rw [h1.2, show n + k + e1 = n + e1 + k by omega]]
  have := h2.2 (n + e1)
  unfold tell at this
  rw [h2.1] at this
  rw [this, show n + e1 + e2 = n + (e1 + e2) by omega]⟩
end
end M

/-! # MC -/
set_option exponentiation.threshold 10000
namespace M
open Lean.Grind
/-! ### the field of 2 ^ 61 - 1 numbers -/
abbrev P : Nat := 2305843009213693951
abbrev PI : Int := 2305843009213693951
instance : NeZero P := ⟨by decide⟩
abbrev Fp := Fin P
instance ringFp : CommRing Fp := inferInstance
def φ (a : Int) : Fp := @IntCast.intCast Fp Ring.intCast a
theorem φ_add (a b : Int) : φ (a + b) = φ a + φ b := Ring.intCast_add a b
theorem φ_mul (a b : Int) : φ (a * b) = φ a * φ b := Ring.intCast_mul a b
theorem φ_sub (a b : Int) : φ (a - b) = φ a - φ b := Ring.intCast_sub a b
theorem φ_zero : φ 0 = 0 := Ring.intCast_zero
theorem φ_one : φ 1 = 1 := Ring.intCast_one
theorem φ_P : φ PI = 0 := by
  unfold φ
  show Fin.intCast PI = _
  unfold Fin.intCast
  rw [if_pos (by decide)]
  apply Fin.eq_of_val_eq
  show P % P = 0
  exact Nat.mod_self P
theorem φ_mod (a : Int) : φ (a % PI) = φ a := by
  have h : φ a = φ (PI * (a / PI) + a % PI) := by rw [Int.mul_ediv_add_emod]
  rw [h, φ_add, φ_mul, φ_P]
  grind
theorem φ_val (a : Int) : ((φ a).val : Int) = a % PI := by
  rw [← φ_mod]
  have h0 : 0 ≤ a % PI := Int.emod_nonneg _ (by decide)
  have h1 : a % PI < PI := Int.emod_lt_of_pos _ (by decide)
  show ((Fin.intCast (n := P) (a % PI)).val : Int) = _
  unfold Fin.intCast
  rw [if_pos h0]
  show (((a % PI).natAbs % P : Nat) : Int) = a % PI
  have h2 : a % PI < 2305843009213693951 := h1
  rw [Nat.mod_eq_of_lt (show (a % PI).natAbs < 2305843009213693951 by omega)]
  omega
theorem φ_eq {a b : Int} : φ a = φ b ↔ a % PI = b % PI := by
  constructor
  · intro h
    rw [← φ_val, ← φ_val, h]
  · intro h
    rw [← φ_mod a, h, φ_mod]
theorem φ_eq_zero {a : Int} : φ a = 0 ↔ a % PI = 0 := by
  rw [← φ_zero, φ_eq]; rfl
theorem φ_surj (x : Fp) : φ (x.val : Int) = x := by
  apply Fin.eq_of_val_eq
  have := φ_val (x.val : Int)
  have h := x.isLt
  rw [Int.emod_eq_of_lt (by omega) (by show (x.val : Int) < ((P : Nat) : Int); omega)] at this
  omega
/-- a number's power, by squares -/
def ploop : Nat → Int → Int → Nat → Int
  | 0, f, _, _ => f
  | k + 1, f, s, m => if m = 0 then f else ploop k (if m % 2 = 1 then f * s % PI else f) (s * s % PI) (m / 2)
theorem pow_two_mul (x : Fp) (m : Nat) : (x * x) ^ m = x ^ (2 * m) := by
  induction m with
  | zero => rw [Semiring.pow_zero, Nat.mul_zero, Semiring.pow_zero]
  | succ m ih => rw [Semiring.pow_succ, ih, show 2 * (m + 1) = 2 * m + 1 + 1 by omega, Semiring.pow_succ, Semiring.pow_succ]; grind
theorem ploop_spec : ∀ (k : Nat) (f s : Int) (m : Nat), m < 2 ^ k → φ (ploop k f s m) = φ f * φ s ^ m
  | 0, f, s, m, h => by
    have : m = 0 := by simpa using h
    subst this
    rw [Semiring.pow_zero]
    show φ f = _
    grind
  | k + 1, f, s, m, h => by
    unfold ploop
    by_cases h0 : m = 0
    · rw [if_pos h0, h0, Semiring.pow_zero]; grind
    · rw [if_neg h0, ploop_spec k _ _ _ (by rw [Nat.pow_succ] at h; omega), φ_mod, φ_mul, pow_two_mul]
      by_cases h1 : m % 2 = 1
      · rw [if_pos h1, φ_mod, φ_mul, show φ s ^ m = φ s ^ (2 * (m / 2) + 1) by rw [show 2 * (m / 2) + 1 = m by omega], Semiring.pow_succ]; grind
      · rw [if_neg h1, show 2 * (m / 2) = m by omega]
theorem one_pow (n : Nat) : (1 : Fp) ^ n = 1 := by
  induction n with
  | zero => exact Semiring.pow_zero _
  | succ n ih => rw [Semiring.pow_succ, ih]; grind
theorem pow_mulF (x : Fp) (a b : Nat) : x ^ (a * b) = (x ^ a) ^ b := by
  induction b with
  | zero => rw [Nat.mul_zero, Semiring.pow_zero, Semiring.pow_zero]
  | succ b ih => rw [Nat.mul_succ, Semiring.pow_add, ih, Semiring.pow_succ]
def D : Nat := 2305843009213693950
def gen : Fp := φ 37
theorem gen_D : gen ^ D = 1 := by
  have h := ploop_spec 61 1 37 D (by decide +kernel)
  have e : ploop 61 1 37 D = 1 := by decide +kernel
  rw [e, φ_one] at h
  show φ 37 ^ D = 1
  rw [h]; grind
def qs : List Nat := [2, 3, 5, 7, 11, 13, 31, 41, 61, 151, 331, 1321]
theorem gen_q : ∀ q ∈ qs, gen ^ (D / q) ≠ 1 := by
  intro q hq e
  have hall : qs.all (fun q => decide (D / q < 2 ^ 61) && decide (ploop 61 1 37 (D / q) % PI ≠ 1)) = true := by decide +kernel
  have h1 := List.all_eq_true.mp hall q hq
  rw [Bool.and_eq_true, decide_eq_true_eq, decide_eq_true_eq] at h1
  have h := ploop_spec 61 1 37 (D / q) h1.1
  have e' : φ 37 ^ (D / q) = 1 := e
  rw [e', φ_one] at h
  apply h1.2
  have h2 : φ (ploop 61 1 37 (D / q)) = φ 1 := by rw [h, φ_one]; grind
  exact (φ_eq.mp h2).trans (by decide)
/-- a number of which nothing but 1 and itself is a part -/
def Pr (r : Nat) : Prop := 2 ≤ r ∧ ∀ t, t ∣ r → t = 1 ∨ t = r
theorem Pr.or {r a b : Nat} (h : Pr r) (d : r ∣ a * b) : r ∣ a ∨ r ∣ b := by
  rcases h.2 (Nat.gcd r a) (Nat.gcd_dvd_left r a) with e | e
  · exact .inr (Nat.Coprime.dvd_of_dvd_mul_left e d)
  · exact .inl (e ▸ Nat.gcd_dvd_right r a)
theorem least_pr : ∀ k : Nat, 2 ≤ k → ∃ r, Pr r ∧ r ∣ k := by
  intro k
  induction k using Nat.strongRecOn with
  | ind k ih =>
    intro hk
    by_cases h : ∃ t, t ∣ k ∧ t ≠ 1 ∧ t ≠ k
    · obtain ⟨t, ht, h1, h2⟩ := h
      have hle := Nat.le_of_dvd (by omega) ht
      have h0 : t ≠ 0 := fun z => by
        subst z
        have := Nat.eq_zero_of_zero_dvd ht
        omega
      obtain ⟨r, hr, hd⟩ := ih t (by omega) (by omega)
      exact ⟨r, hr, Nat.dvd_trans hd ht⟩
    · refine ⟨k, ⟨hk, fun t ht => ?_⟩, Nat.dvd_refl _⟩
      by_cases e : t = 1
      · exact .inl e
      · exact .inr (Classical.byContradiction fun q => h ⟨t, ht, e, q⟩)
theorem small_pr : ∀ q ∈ qs, ∀ r, r ∣ q → 2 ≤ r → r = q := by
  intro q hq r hr h2
  have hall : qs.all (fun q => decide (0 < q) && (List.range 1322).all (fun r => decide (q % r = 0 → 2 ≤ r → r = q)) && decide (q < 1322)) = true := by decide +kernel
  have h1 := List.all_eq_true.mp hall q hq
  rw [Bool.and_eq_true, Bool.and_eq_true, decide_eq_true_eq, decide_eq_true_eq] at h1
  have hle := Nat.le_of_dvd h1.1.1 hr
  have h3 := List.all_eq_true.mp h1.1.2 r (List.mem_range.mpr (by omega))
  exact of_decide_eq_true h3 (Nat.mod_eq_zero_of_dvd hr) h2
theorem part_q (k : Nat) (hk : 2 ≤ k) (hd : k ∣ D) : ∃ q ∈ qs, q ∣ k := by
  obtain ⟨r, hr, hrk⟩ := least_pr k hk
  have hD : D = 2 * (3 * (3 * (5 * (5 * (7 * (11 * (13 * (31 * (41 * (61 * (151 * (331 * 1321)))))))))))) := by decide +kernel
  have h := Nat.dvd_trans hrk hd
  rw [hD] at h
  have fin : ∀ q, q ∈ qs → r ∣ q → ∃ q ∈ qs, q ∣ k := fun q hq hrq => ⟨q, hq, (small_pr q hq r hrq hr.1) ▸ hrk⟩
  rcases hr.or h with h | h
  · exact fin 2 (by decide) h
  rcases hr.or h with h | h
  · exact fin 3 (by decide) h
  rcases hr.or h with h | h
  · exact fin 3 (by decide) h
  rcases hr.or h with h | h
  · exact fin 5 (by decide) h
  rcases hr.or h with h | h
  · exact fin 5 (by decide) h
  rcases hr.or h with h | h
  · exact fin 7 (by decide) h
  rcases hr.or h with h | h
  · exact fin 11 (by decide) h
  rcases hr.or h with h | h
  · exact fin 13 (by decide) h
  rcases hr.or h with h | h
  · exact fin 31 (by decide) h
  rcases hr.or h with h | h
  · exact fin 41 (by decide) h
  rcases hr.or h with h | h
  · exact fin 61 (by decide) h
  rcases hr.or h with h | h
  · exact fin 151 (by decide) h
  rcases hr.or h with h | h
  · exact fin 331 (by decide) h
  · exact fin 1321 (by decide) h
theorem gen_ord (d : Nat) (h0 : 0 < d) (h1 : d < D) : gen ^ d ≠ 1 := by
  intro hd
  obtain ⟨d, h0, h1, hd, hmin⟩ : ∃ d, 0 < d ∧ d < D ∧ gen ^ d = 1 ∧ ∀ t, 0 < t → t < d → gen ^ t ≠ 1 := by
    induction d using Nat.strongRecOn with
    | ind d ih =>
      by_cases h : ∃ t, 0 < t ∧ t < d ∧ gen ^ t = 1
      · obtain ⟨t, a, b, c⟩ := h
        exact ih t b a (by omega) c
      · exact ⟨d, h0, h1, hd, fun t a b c => h ⟨t, a, b, c⟩⟩
  have hm : D % d = 0 := by
    have e : gen ^ (d * (D / d) + D % d) = 1 := by rw [Nat.div_add_mod]; exact gen_D
    rw [Semiring.pow_add, pow_mulF, hd, one_pow] at e
    have e' : gen ^ (D % d) = 1 := by grind
    rcases Nat.eq_zero_or_pos (D % d) with z | z
    · exact z
    · exact absurd e' (hmin _ z (Nat.mod_lt _ h0))
  obtain ⟨k, hk⟩ := Nat.dvd_of_mod_eq_zero hm
  have hk2 : 2 ≤ k := by
    rcases k with _ | _ | k
    · rw [Nat.mul_zero] at hk; omega
    · omega
    · omega
  obtain ⟨q, hq, hqk⟩ := part_q k hk2 ⟨d, by rw [hk, Nat.mul_comm]⟩
  obtain ⟨j, hj⟩ := hqk
  have hq0 : 0 < q := by
    rcases Nat.eq_zero_or_pos q with z | z
    · rw [z, Nat.zero_mul] at hj; omega
    · exact z
  refine gen_q q hq ?_
  have e : D / q = d * j := by
    rw [hk, hj, show d * (q * j) = q * (d * j) by rw [Nat.mul_left_comm]]
    exact Nat.mul_div_cancel_left _ hq0
  rw [e, pow_mulF, hd, one_pow]
/-- what sends n things to n things without sending two to one meets all -/
theorem meets : ∀ (n : Nat) (f : Nat → Nat), (∀ i, i < n → f i < n) → (∀ i j, i < j → j < n → f i ≠ f j) → ∀ y, y < n → ∃ i, i < n ∧ f i = y := by
  intro n
  induction n with
  | zero => exact fun _ _ _ y hy => absurd hy (Nat.not_lt_zero _)
  | succ n ih =>
    intro f hf hi y hy
    by_cases hn : f n = n
    · by_cases e : y = n
      · exact ⟨n, by omega, hn.trans e.symm⟩
      · obtain ⟨i, h1, h2⟩ := ih f (fun i h => by
          have := hf i (by omega)
          have := hi i n h (by omega)
          omega) (fun i j a b => hi i j a (by omega)) y (by omega)
        exact ⟨i, by omega, h2⟩
    · -- the place that is sent to n is sent where n is sent
      let g : Nat → Nat := fun i => if f i = n then f n else f i
      have hfn := hf n (by omega)
      have gb : ∀ i, i < n → g i < n := fun i h => by
        show (if f i = n then f n else f i) < n
        have := hf i (by omega)
        split <;> omega
      have gi : ∀ i j, i < j → j < n → g i ≠ g j := fun i j a b => by
        show (if f i = n then f n else f i) ≠ (if f j = n then f n else f j)
        have h1 := hi i j a (by omega)
        have h2 := hi i n (by omega) (by omega)
        have h3 := hi j n (by omega) (by omega)
        split <;> split <;> omega
      by_cases e : y = n
      · -- who is sent to n?
        obtain ⟨i, h1, h2⟩ := ih g gb gi (f n) (by omega)
        have h3 : (if f i = n then f n else f i) = f n := h2
        by_cases q : f i = n
        · exact ⟨i, by omega, q.trans e.symm⟩
        · rw [if_neg q] at h3
          exact absurd h3 (hi i n h1 (by omega))
      · by_cases e2 : y = f n
        · exact ⟨n, by omega, e2.symm⟩
        · obtain ⟨i, h1, h2⟩ := ih g gb gi y (by omega)
          have h3 : (if f i = n then f n else f i) = y := h2
          by_cases q : f i = n
          · rw [if_pos q] at h3
            exact absurd h3.symm e2
          · rw [if_neg q] at h3
            exact ⟨i, by omega, h3⟩
theorem gen_ne (i : Nat) (hi : i ≤ D) : gen ^ i ≠ 0 := fun e => by
  have h : gen ^ (i + (D - i)) = 1 := by rw [show i + (D - i) = D by omega]; exact gen_D
  rw [Semiring.pow_add, e] at h
  have h2 : (0 : Fp) = 1 := by
    rw [← h]; grind
  have h3 : (φ 0) = φ 1 := by rw [φ_zero, φ_one]; exact h2
  exact absurd (φ_eq.mp h3) (by decide)
theorem all_gen (x : Fp) (hx : x ≠ 0) : ∃ i : Nat, x = gen ^ i := by
  have hv : ∀ y : Fp, y ≠ 0 → 1 ≤ y.val := fun y hy => by
    rcases Nat.eq_zero_or_pos y.val with z | z
    · exact absurd (Fin.eq_of_val_eq z) hy
    · exact z
  have hlt : ∀ y : Fp, y.val < D + 1 := fun y => y.isLt
  obtain ⟨i, h1, h2⟩ := meets D (fun (i : Nat) => (gen ^ i).val - 1) (fun (i : Nat) hi => by
      have := hv _ (gen_ne i (by omega))
      have := hlt (gen ^ i)
      show (gen ^ i).val - 1 < D
      omega) (fun (i j : Nat) a b e => by
      have e1 : (gen ^ i).val - 1 = (gen ^ j).val - 1 := e
      have := hv _ (gen_ne i (by omega))
      have := hv _ (gen_ne j (by omega))
      have e2 : gen ^ i = gen ^ j := Fin.eq_of_val_eq (by omega)
      refine gen_ord (j - i) (by omega) (by omega) ?_
      have e3 : gen ^ (i + (D - i)) = 1 := by rw [show i + (D - i) = D by omega]; exact gen_D
      have e4 : gen ^ (j + (D - i)) = gen ^ (j - i) := by
        rw [show j + (D - i) = D + (j - i) by omega, Semiring.pow_add, gen_D]; grind
      rw [← e4, Semiring.pow_add, ← e2, ← Semiring.pow_add, e3]) (x.val - 1) (by
      have := hv x hx
      have := hlt x
      omega)
  refine ⟨i, Fin.eq_of_val_eq ?_⟩
  have := hv x hx
  have := hv _ (gen_ne i (by omega))
  have e : (gen ^ i).val - 1 = x.val - 1 := h2
  omega
theorem fermat (x : Fp) (hx : x ≠ 0) : x ^ D = 1 := by
  obtain ⟨i, rfl⟩ := all_gen x hx
  rw [← pow_mulF, Nat.mul_comm, pow_mulF, gen_D, one_pow]
/-- what inverse gives -/
def inv (n : Int) : Int := ploop 61 1 (n % PI) 2305843009213693949
theorem inv_spec (n : Int) (h : n % PI ≠ 0) : φ (inv n) * φ n = 1 := by
  unfold inv
  rw [ploop_spec 61 1 _ _ (by decide +kernel), φ_mod, φ_one]
  have h1 : φ n ^ (2305843009213693949 + 1) = 1 := fermat (φ n) fun e => h (φ_eq_zero.mp e)
  rw [Semiring.pow_succ] at h1
  grind
theorem hinv (x : Fp) (hx : x ≠ 0) : ∃ y, x * y = 1 := by
  refine ⟨φ (inv x.val), ?_⟩
  have h := inv_spec (x.val : Int) fun e => hx (by rw [← φ_surj x]; exact φ_eq_zero.mpr e)
  rw [φ_surj] at h
  grind
end M

/-! # MD -/
namespace M
open Lean.Grind
/-! ### the program's rows of ints -/
def inP (x : Int) : Prop := 0 ≤ x ∧ x < 2305843009213693951
theorem inP_mod (x : Int) : inP (x % PI) := ⟨Int.emod_nonneg _ (by decide), Int.emod_lt_of_pos _ (by decide)⟩
def tstepM (row rule : List Int) : List Int := (List.range rule.length).map fun i => ((if 0 < i then row.getD (i - 1) 0 else 0) + row.getD (rule.length - 1) 0 * rule.getD (rule.length - 1 - i) 0) % PI
def mixM (x : Int) (f h : List Int) : List Int := List.zipWith (fun a b => (a + x * b) % PI) f h
def stepT (rule : List Int) (s : List Int × List Int) (x : Int) : List Int × List Int := (mixM x s.1 s.2, tstepM s.2 rule)
def timesM (one two rule : List Int) : List Int := (two.foldl (stepT rule) (List.replicate rule.length 0, one)).1
theorem tstepM_len (row rule : List Int) : (tstepM row rule).length = rule.length := by simp [tstepM]
theorem tstepM_in (row rule : List Int) : ∀ x ∈ tstepM row rule, inP x := fun x h => by
  obtain ⟨i, _, rfl⟩ := List.mem_map.mp h
  exact inP_mod _
theorem mixM_len (x : Int) (f h : List Int) : (mixM x f h).length = min f.length h.length := by simp [mixM]
theorem mixM_in (x : Int) (f h : List Int) : ∀ y ∈ mixM x f h, inP y := fun y hy => by
  unfold mixM at hy
  obtain ⟨i, hi, rfl⟩ := List.mem_iff_getElem.mp hy
  rw [List.getElem_zipWith]
  exact inP_mod _
theorem fct_map (l : List Int) (i : Nat) : fct (l.map φ) i = φ (l.getD i 0) := by
  unfold fct
  rw [List.getD_eq_getElem?_getD, List.getD_eq_getElem?_getD, List.getElem?_map]
  cases l[i]? with
  | none => exact φ_zero.symm
  | some x => rfl
theorem getD_tstep (row rule : List Int) (i : Nat) (hi : i < rule.length) : (tstepM row rule).getD i 0 = ((if 0 < i then row.getD (i - 1) 0 else 0) + row.getD (rule.length - 1) 0 * rule.getD (rule.length - 1 - i) 0) % PI := by
  unfold tstepM
  rw [List.getD_eq_getElem?_getD, List.getElem?_map, List.getElem?_range hi]
  rfl
theorem stands_tstep {s : Nat → Fp} {size e : Nat} {rule row : List Int} (hr : rule.length = size) (hs : 0 < size) (hd : ∀ n, size ≤ n → dsc s (fct (rule.map φ)) size n = 0) (h : Stands s size (row.map φ) e) :
    Stands s size ((tstepM row rule).map φ) (e + 1) := by
  refine stands_step (rule := rule.map φ) (row := row.map φ) (by rw [List.length_map, hr]) hs hd h (by rw [List.length_map, tstepM_len, hr]) fun i hi => ?_
  rw [fct_map, getD_tstep _ _ _ (by omega), φ_mod, φ_add, φ_mul, hr, fct_map, fct_map, fct_map]
  congr 1
  split
  · rfl
  · exact φ_zero
theorem getD_mix (x : Int) (f h : List Int) (hl : f.length = h.length) (i : Nat) : φ ((mixM x f h).getD i 0) = φ (f.getD i 0) + φ x * φ (h.getD i 0) := by
  unfold mixM
  by_cases hi : i < f.length
  · rw [List.getD_eq_getElem?_getD, List.getElem?_zipWith, List.getElem?_eq_getElem hi, List.getElem?_eq_getElem (by omega), List.getD_eq_getElem?_getD, List.getElem?_eq_getElem hi, List.getD_eq_getElem?_getD, List.getElem?_eq_getElem (by omega)]
    show φ ((f[i] + x * h[i]) % PI) = φ f[i] + φ x * φ h[i]
    rw [φ_mod, φ_add, φ_mul]
  · rw [List.getD_eq_getElem?_getD, List.getElem?_eq_none (by rw [List.length_zipWith]; omega), List.getD_eq_getElem?_getD, List.getElem?_eq_none (by omega), List.getD_eq_getElem?_getD, List.getElem?_eq_none (by omega)]
    show φ 0 = φ 0 + φ x * φ 0
    rw [φ_zero]; grind
theorem tell_mix {s : Nat → Fp} (x : Int) (f h : List Int) (hl : f.length = h.length) (n : Nat) : tell s ((mixM x f h).map φ) n = tell s (f.map φ) n + φ x * tell s (h.map φ) n := by
  unfold tell
  rw [List.length_map, List.length_map, List.length_map, mixM_len, ← hl, Nat.min_self, ← sm_mul, ← sm_add]
  exact sm_congr fun i _ => by rw [fct_map, fct_map, fct_map, getD_mix x f h hl]; grind
/-- what the loop keeps, behind i factors -/
theorem times_turn {s : Nat → Fp} {size e : Nat} {rule one two : List Int} (hr : rule.length = size) (hs : 0 < size) (hd : ∀ n, size ≤ n → dsc s (fct (rule.map φ)) size n = 0) (h1 : Stands s size (one.map φ) e) :
    ∀ k, k ≤ two.length → (((two.take k).foldl (stepT rule) (List.replicate rule.length 0, one)).1.length = size ∧
      (∀ n, tell s (((two.take k).foldl (stepT rule) (List.replicate rule.length 0, one)).1.map φ) n = sm k (fun i => fct (two.map φ) i * tell s (one.map φ) (n + i))) ∧
      Stands s size (((two.take k).foldl (stepT rule) (List.replicate rule.length 0, one)).2.map φ) (e + k)) := by
  intro k
  induction k with
  | zero =>
    intro _
    refine ⟨by simp [hr], fun n => ?_, h1⟩
    show tell s ((List.replicate rule.length 0).map φ) n = 0
    unfold tell
    exact sm_z _ fun i _ => by
      rw [fct_map, List.getD_eq_getElem?_getD, List.getElem?_replicate]
      split
      · show φ 0 * _ = 0
        rw [φ_zero]; grind
      · show φ 0 * _ = 0
        rw [φ_zero]; grind
  | succ k ih =>
    intro hk
    obtain ⟨a, b, c⟩ := ih (by omega)
    have hx : two[k]? = some two[k] := List.getElem?_eq_getElem (by omega)
    rw [List.take_add_one, hx, List.foldl_append]
    generalize (two.take k).foldl (stepT rule) (List.replicate rule.length 0, one) = st at a b c ⊢
    have hl2 : st.2.length = size := by have := c.1; rwa [List.length_map] at this
    refine ⟨?_, fun n => ?_, ?_⟩
    · show (mixM two[k] st.1 st.2).length = size
      rw [mixM_len]; omega
    · show tell s ((mixM two[k] st.1 st.2).map φ) n = _
      rw [tell_mix _ _ _ (by omega), b, sm_succ]
      congr 1
      rw [c.2, h1.2, fct_map, List.getD_eq_getElem?_getD, hx]
      show φ two[k] * s (n + (e + k)) = φ two[k] * s (n + k + e)
      rw [show n + (e + k) = n + k + e by omega]
    · show Stands s size ((tstepM st.2 rule).map φ) (e + k + 1)
      exact stands_tstep hr hs hd c
theorem timesM_stands {s : Nat → Fp} {size e1 e2 : Nat} {rule one two : List Int} (hr : rule.length = size) (hs : 0 < size) (hd : ∀ n, size ≤ n → dsc s (fct (rule.map φ)) size n = 0)
    (h1 : Stands s size (one.map φ) e1) (h2 : Stands s size (two.map φ) e2) : Stands s size ((timesM one two rule).map φ) (e1 + e2) := by
  have hl : two.length = size := by have := h2.1; rwa [List.length_map] at this
  obtain ⟨a, b, c⟩ := times_turn (two := two) hr hs hd h1 two.length (Nat.le_refl _)
  rw [List.take_length] at a b c
  refine stands_times h1 h2 (by rw [List.length_map]; exact a) fun n => ?_
  rw [← hl]
  exact b n
theorem foldT_len (rule : List Int) : ∀ (two : List Int) (s : List Int × List Int), s.1.length = rule.length → s.2.length = rule.length → ((two.foldl (stepT rule) s).1.length = rule.length ∧ (two.foldl (stepT rule) s).2.length = rule.length)
  | [], _, h1, h2 => ⟨h1, h2⟩
  | x :: r, s, h1, h2 => by
    rw [List.foldl_cons]
    exact foldT_len rule r _ (by show (mixM x s.1 s.2).length = _; rw [mixM_len]; omega) (tstepM_len _ _)
theorem foldT_in (rule : List Int) : ∀ (two : List Int) (s : List Int × List Int), (∀ x ∈ s.1, inP x) → (∀ x ∈ s.2, inP x) → ((∀ x ∈ (two.foldl (stepT rule) s).1, inP x) ∧ ∀ x ∈ (two.foldl (stepT rule) s).2, inP x)
  | [], _, h1, h2 => ⟨h1, h2⟩
  | x :: r, s, _, _ => by
    rw [List.foldl_cons]
    exact foldT_in rule r _ (mixM_in _ _ _) (tstepM_in _ _)
theorem timesM_len (one two rule : List Int) (h : one.length = rule.length) : (timesM one two rule).length = rule.length := (foldT_len rule two _ (by simp) h).1
theorem timesM_in (one two rule : List Int) (h : ∀ x ∈ one, inP x) : ∀ x ∈ timesM one two rule, inP x := (foldT_in rule two _ (fun x hx => by rw [List.eq_of_mem_replicate hx]; exact ⟨by decide, by decide⟩) h).1
end M

/-! # ME -/
namespace M
open Lean.Grind
theorem φ_sum (g : Nat → Int) : ∀ n : Nat, φ ((List.range n).map g).sum = sm n (fun i => φ (g i))
  | 0 => φ_zero
  | n + 1 => by
    rw [List.range_succ, List.map_append, List.sum_append, φ_add, φ_sum g n, sm_succ]
    simp
end M

/-! # MF -/
namespace M
open Lean.Grind
theorem getD_map0 (l : List Int) (i : Nat) : fct (l.map φ) i = φ (l.getD i 0) := fct_map l i
theorem getD_out {l : List Int} {i : Nat} (h : l.length ≤ i) : l.getD i 0 = 0 := by
  rw [List.getD_eq_getElem?_getD, List.getElem?_eq_none h]; rfl
theorem getD_inP {l : List Int} {i : Nat} (h : ∀ x ∈ l, inP x) : inP (l.getD i 0) := by
  by_cases hi : i < l.length
  · rw [List.getD_eq_getElem?_getD, List.getElem?_eq_getElem hi]
    exact h _ (List.getElem_mem hi)
  · rw [getD_out (by omega)]; exact ⟨by decide, by decide⟩
/-- the rule made greater, behind k factors of the old one -/
def GK (rule old g : List Int) (gap : Nat) (part : Int) (k : Nat) : Prop :=
  g.length = max rule.length (gap + old.length) ∧ (∀ x ∈ g, inP x) ∧
  ∀ i, i < g.length → φ (g.getD i 0) = φ (rule.getD i 0) + (if i = gap - 1 then φ part else 0) - (if gap ≤ i ∧ i - gap < k then φ part * φ (old.getD (i - gap) 0) else 0)
theorem getD_set (l : List Int) (j i : Nat) (x : Int) (hj : j < l.length) : (l.set j x).getD i 0 = if i = j then x else l.getD i 0 := by
  rw [List.getD_eq_getElem?_getD, List.getD_eq_getElem?_getD, List.getElem?_set]
  by_cases e : j = i
  · subst e; rw [if_pos rfl, if_pos rfl, if_pos hj]; rfl
  · rw [if_neg e, if_neg (fun z => e z.symm)]
theorem set_inP {l : List Int} {j : Nat} {x : Int} (h : ∀ x ∈ l, inP x) (hx : inP x) : ∀ y ∈ l.set j x, inP y := fun y hy => by
  rcases List.mem_or_eq_of_mem_set hy with e | e
  · exact h y e
  · rw [e]; exact hx
def pad (rule : List Int) (n : Nat) : List Int := rule ++ List.replicate n 0
theorem pad_getD (rule : List Int) (n i : Nat) : (pad rule n).getD i 0 = rule.getD i 0 := by
  unfold pad
  rw [List.getD_eq_getElem?_getD]
  by_cases hi : i < rule.length
  · rw [List.getElem?_append_left hi, ← List.getD_eq_getElem?_getD]
  · rw [List.getElem?_append_right (by omega), getD_out (by omega), List.getElem?_replicate]
    split <;> rfl
theorem pad_in {rule : List Int} {n : Nat} (h : ∀ x ∈ rule, inP x) : ∀ x ∈ pad rule n, inP x := fun x hx => by
  rcases List.mem_append.mp hx with e | e
  · exact h x e
  · rw [List.eq_of_mem_replicate e]; exact ⟨by decide, by decide⟩
theorem GK.start {rule old : List Int} {gap n : Nat} {part : Int} (g1 : 1 ≤ gap) (hr : ∀ x ∈ rule, inP x) (hn : n = gap + old.length - rule.length) :
    GK rule old ((pad rule n).set (gap - 1) (((pad rule n).getD (gap - 1) 0 + part) % PI)) gap part 0 := by
  have hlen : (pad rule n).length = max rule.length (gap + old.length) := by
    unfold pad; rw [List.length_append, List.length_replicate]; omega
  refine ⟨by rw [List.length_set, hlen], set_inP (pad_in hr) (inP_mod _), fun i hi => ?_⟩
  rw [getD_set _ _ _ _ (by omega), pad_getD, pad_getD, if_neg (by omega : ¬ (gap ≤ i ∧ i - gap < 0))]
  by_cases e : i = gap - 1
  · rw [if_pos e, if_pos e, φ_mod, φ_add, e]; grind
  · rw [if_neg e, if_neg e]; grind
theorem GK.step {rule old g : List Int} {gap k : Nat} {part : Int} (g1 : 1 ≤ gap) (hk : k < old.length) (h : GK rule old g gap part k) :
    GK rule old (g.set (gap + k) ((g.getD (gap + k) 0 - part * old.getD k 0) % PI)) gap part (k + 1) := by
  obtain ⟨h1, h2, h3⟩ := h
  refine ⟨by rw [List.length_set, h1], set_inP h2 (inP_mod _), fun i hi => ?_⟩
  rw [List.length_set] at hi
  rw [getD_set _ _ _ _ (by omega)]
  by_cases e : i = gap + k
  · subst e
    rw [if_pos rfl, φ_mod, φ_sub, φ_mul, h3 _ hi, if_neg (by omega : ¬ (gap ≤ gap + k ∧ gap + k - gap < k)), if_pos (by omega : gap ≤ gap + k ∧ gap + k - gap < k + 1), show gap + k - gap = k by omega]
    grind
  · rw [if_neg e, h3 _ hi]
    by_cases e2 : gap ≤ i ∧ i - gap < k
    · rw [if_pos e2, if_pos (by omega : gap ≤ i ∧ i - gap < k + 1)]
    · rw [if_neg e2, if_neg (by omega : ¬ (gap ≤ i ∧ i - gap < k + 1))]
theorem GK.done {rule old g : List Int} {gap : Nat} {part : Int} (h : GK rule old g gap part old.length) : Grown (rule.map φ) (old.map φ) (g.map φ) gap (φ part) := by
  obtain ⟨h1, h2, h3⟩ := h
  refine ⟨by rw [List.length_map, List.length_map, List.length_map, h1], fun i hi => ?_⟩
  rw [List.length_map] at hi
  rw [fct_map, fct_map, h3 i hi]
  congr 1
  by_cases e : gap ≤ i
  · rw [if_pos e, fct_map]
    by_cases e2 : i - gap < old.length
    · rw [if_pos ⟨e, e2⟩]
    · rw [if_neg (fun z => e2 z.2), getD_out (by omega), φ_zero]; grind
  · rw [if_neg e, if_neg (fun z => e z.1)]
/-- the state, in ints -/
def BMI (s : Nat → Fp) (N : Nat) (rule old : List Int) (gap : Nat) (last : Int) : Prop := BM s N (rule.map φ) (old.map φ) gap (φ last) ∧ (∀ x ∈ rule, inP x) ∧ (∀ x ∈ old, inP x) ∧ inP last
theorem BMI.start (s : Nat → Fp) : BMI s 0 [] [] 1 1 := ⟨by rw [φ_one]; exact BM.start s, (fun _ h => nomatch h), (fun _ h => nomatch h), ⟨by decide, by decide⟩⟩
def missM (ns rule : List Int) (at_ : Nat) : Int := (ns.getD at_ 0 - ((List.range rule.length).map fun k => rule.getD k 0 * ns.getD (at_ - 1 - k) 0).sum) % PI
theorem miss_dsc {s : Nat → Fp} {ns rule : List Int} {a : Nat} (hs : ∀ i, i < ns.length → s i = φ (ns.getD i 0)) (ha : a < ns.length) : φ (missM ns rule a) = dsc s (fct (rule.map φ)) (rule.map φ).length a := by
  unfold missM dsc
  rw [φ_mod, φ_sub, φ_sum, hs a ha, List.length_map]
  congr 1
  exact sm_congr fun i hi => by rw [φ_mul, fct_map, hs (a - 1 - i) (by omega)]
theorem BMI.last_ne {s : Nat → Fp} {N gap : Nat} {rule old : List Int} {last : Int} (h : BMI s N rule old gap last) : last % PI ≠ 0 := fun e => by
  have z : φ last = 0 := φ_eq_zero.mpr e
  rcases h.1.chg with ⟨_, _, c⟩ | ⟨_, c, _⟩
  · rw [z] at c
    have h3 : (φ 0) = φ 1 := by rw [φ_zero, φ_one]; exact c
    exact absurd (φ_eq.mp h3) (by decide)
  · exact c z
theorem BMI.same {s : Nat → Fp} {N gap : Nat} {ns rule old : List Int} {last : Int} (h : BMI s N rule old gap last) (hs : ∀ i, i < ns.length → s i = φ (ns.getD i 0)) (hN : N < ns.length) (hm : missM ns rule N = 0) : BMI s (N + 1) rule old (gap + 1) last :=
  ⟨h.1.same (by rw [← miss_dsc hs hN, hm, φ_zero]), h.2⟩
theorem BMI.step {s : Nat → Fp} {N gap : Nat} {ns rule old g : List Int} {last iv part : Int} (h : BMI s N rule old gap last) (hs : ∀ i, i < ns.length → s i = φ (ns.getD i 0)) (hN : N < ns.length) (hm : missM ns rule N ≠ 0)
    (hi : φ iv * φ last = 1) (hp : part = missM ns rule N * iv % PI) (hg : GK rule old g gap part old.length) :
    (2 * rule.length ≤ N → g.length = N + 1 - rule.length ∧ BMI s (N + 1) g rule 1 (missM ns rule N)) ∧ (¬ 2 * rule.length ≤ N → g.length = rule.length ∧ BMI s (N + 1) g old (gap + 1) last) := by
  have e := miss_dsc (rule := rule) hs hN
  have hmi : inP (missM ns rule N) := inP_mod _
  have hm2 : dsc s (fct (rule.map φ)) (rule.map φ).length N ≠ 0 := fun z => by
    rw [← e] at z
    have z2 := φ_eq_zero.mp z
    rw [Int.emod_eq_of_lt hmi.1 hmi.2] at z2
    exact hm z2
  have hp2 : φ part * φ last = dsc s (fct (rule.map φ)) (rule.map φ).length N := by
    rw [← e, hp, φ_mod, φ_mul]; grind
  obtain ⟨a, b⟩ := h.1.step hm2 hp2 hg.done
  rw [List.length_map, List.length_map] at a b
  refine ⟨fun q => ?_, fun q => ?_⟩
  · obtain ⟨a1, a2⟩ := a q
    have a3 : dsc s (fct (rule.map φ)) rule.length N = φ (missM ns rule N) := by rw [e, List.length_map]
    exact ⟨a1, by rw [a3] at a2; exact a2, hg.2.1, h.2.1, hmi⟩
  · obtain ⟨b1, b2⟩ := b q
    exact ⟨b1, b2, hg.2.1, h.2.2⟩
end M

/-! # MG -/
namespace M
open Lean.Grind
/-! ### the numbers of ways -/
section
variable (R : Nat → Nat → Nat → Bool) (B : Nat)
def nextC (C : Nat → Nat → Int) : Nat → Nat → Int := fun b c => if b < B ∧ c < B then sm B (fun a => if R a b c = true then C a b else 0) else 0
def C0 : Nat → Nat → Int := fun a b => if a = 0 ∧ b = 0 then 1 else 0
def Cn : Nat → Nat → Nat → Int
  | 0 => C0
  | w + 1 => nextC R B (Cn w)
def endF (C : Nat → Nat → Int) : Int := sm B fun a => sm B fun b => if (R a b 0 && R b 0 0) = true then C a b else 0
def En (w : Nat) : Int := endF R B (Cn R B w)
end
/-- a number, or what it leaves -/
def md (m : Option Int) (x : Int) : Int := match m with
  | none => x
  | some p => x % p
theorem md_md (m : Option Int) (x y : Int) : md m (md m x + y) = md m (x + y) := by
  cases m with
  | none => rfl
  | some p => exact Int.emod_add_emod x p y
theorem md_md2 (m : Option Int) (x y : Int) : md m (x + md m y) = md m (x + y) := by
  rw [Int.add_comm, md_md, Int.add_comm]
theorem md_id (m : Option Int) (x : Int) : md m (md m x) = md m x := by
  have := md_md m x 0
  rw [Int.add_zero, Int.add_zero] at this
  exact this
theorem md_zero (m : Option Int) : md m 0 = 0 := by
  cases m with
  | none => rfl
  | some p => exact Int.zero_emod p
theorem md_sm (m : Option Int) (n : Nat) (f : Nat → Int) : md m (sm n (fun i => md m (f i))) = md m (sm n f) := by
  induction n with
  | zero => rfl
  | succ n ih => rw [sm_succ, sm_succ, ← md_md, ih, md_md, md_md2]
theorem md_ite (m : Option Int) (c : Prop) [Decidable c] (x : Int) : (if c then md m x else 0) = md m (if c then x else 0) := by
  split
  · rfl
  · exact (md_zero m).symm
theorem md_next (R : Nat → Nat → Nat → Bool) (B : Nat) (m : Option Int) (C : Nat → Nat → Int) (b c : Nat) : md m (nextC R B (fun a b => md m (C a b)) b c) = md m (nextC R B C b c) := by
  unfold nextC
  by_cases h : b < B ∧ c < B
  · rw [if_pos h, if_pos h, sm_congr (g := fun a => md m (if R a b c = true then C a b else 0)) fun a _ => md_ite m _ _, md_sm]
  · rw [if_neg h, if_neg h]
theorem md_end (R : Nat → Nat → Nat → Bool) (B : Nat) (m : Option Int) (C : Nat → Nat → Int) : md m (endF R B (fun a b => md m (C a b))) = md m (endF R B C) := by
  unfold endF
  rw [← md_sm m B, ← md_sm m B (fun a => sm B fun b => if (R a b 0 && R b 0 0) = true then C a b else 0)]
  congr 2
  funext a
  rw [sm_congr (g := fun b => md m (if (R a b 0 && R b 0 0) = true then C a b else 0)) fun b _ => md_ite m _ _, md_sm]

/-! ### tables: the pairs in their order, the numbers by a function -/
structure Tab (B : Nat) (ps : List (Nat × Nat)) (C : Nat → Nat → Int) : Prop where
  nd : ps.Nodup
  lt : ∀ p ∈ ps, p.1 < B ∧ p.2 < B
  out : ∀ a b, (a, b) ∉ ps → C a b = 0
theorem nodup_lt : ∀ (n : Nat) (l : List Nat), l.Nodup → (∀ x ∈ l, x < n) → l.length ≤ n
  | 0, [], _, _ => Nat.le_refl _
  | 0, x :: _, _, h => absurd (h x (List.mem_cons_self ..)) (Nat.not_lt_zero _)
  | n + 1, l, hn, h => by
    have h1 := nodup_lt n (l.erase n) (hn.erase n) fun x hx => by
      obtain ⟨a, b⟩ := (List.Nodup.mem_erase_iff hn).mp hx
      have := h x b
      omega
    have h2 : l.length ≤ (l.erase n).length + 1 := by
      rw [List.length_erase]
      split <;> omega
    omega
theorem Tab.len {B : Nat} {ps : List (Nat × Nat)} {C : Nat → Nat → Int} (h : Tab B ps C) : ps.length ≤ B * B := by
  have := nodup_lt (B * B) (ps.map fun p => p.1 * B + p.2) (by
    refine List.Pairwise.map _ (fun p q hpq => ?_) (List.Pairwise.imp_of_mem (S := fun p q => p ≠ q ∧ p.1 < B ∧ p.2 < B ∧ q.1 < B ∧ q.2 < B) (fun {p q} hp hq hne => ⟨hne, (h.lt p hp).1, (h.lt p hp).2, (h.lt q hq).1, (h.lt q hq).2⟩) h.nd)
    obtain ⟨hne, h1, h2, h3, h4⟩ := hpq
    intro e
    apply hne
    obtain ⟨p1, p2⟩ := p
    obtain ⟨q1, q2⟩ := q
    have e' : p1 * B + p2 = q1 * B + q2 := e
    have h2' : p2 < B := h2
    have h4' : q2 < B := h4
    have hB : 0 < B := by omega
    have d1 : (p1 * B + p2) / B = p1 := by rw [Nat.mul_comm, Nat.mul_add_div hB, Nat.div_eq_of_lt h2']; omega
    have d2 : (q1 * B + q2) / B = q1 := by rw [Nat.mul_comm, Nat.mul_add_div hB, Nat.div_eq_of_lt h4']; omega
    have e1 : p1 = q1 := by rw [← d1, ← d2, e']
    subst e1
    have : p2 = q2 := by omega
    rw [this]) fun x hx => by
      obtain ⟨p, hp, rfl⟩ := List.mem_map.mp hx
      obtain ⟨h1, h2⟩ := h.lt p hp
      have : p.1 * B + B ≤ B * B := by
        rw [← Nat.succ_mul]
        exact Nat.mul_le_mul_right B h1
      omega
  rwa [List.length_map] at this
/-- the sum over a table's pairs -/
def lsum (g : Nat → Nat → Int) (ps : List (Nat × Nat)) : Int := (ps.map fun p => g p.1 p.2).sum
theorem lsum_snoc (g : Nat → Nat → Int) (ps : List (Nat × Nat)) (p : Nat × Nat) : lsum g (ps ++ [p]) = lsum g ps + g p.1 p.2 := by
  unfold lsum
  rw [List.map_append, List.sum_append]
  simp
theorem lsum_sm (B : Nat) (g : Nat → Nat → Int) : ∀ (ps : List (Nat × Nat)), ps.Nodup → (∀ p ∈ ps, p.1 < B ∧ p.2 < B) → lsum g ps = sm B fun a => sm B fun b => if (a, b) ∈ ps then g a b else 0
  | [], _, _ => (sm_z B fun a _ => sm_z B fun b _ => if_neg (by simp)).symm
  | p :: r, hn, hl => by
    obtain ⟨h1, h2⟩ := List.nodup_cons.mp hn
    have ih := lsum_sm B g r h2 fun q hq => hl q (List.mem_cons_of_mem _ hq)
    obtain ⟨l1, l2⟩ := hl p (List.mem_cons_self ..)
    have e : lsum g (p :: r) = g p.1 p.2 + lsum g r := rfl
    rw [e, ih]
    have e2 : (sm B fun a => sm B fun b => if (a, b) ∈ p :: r then g a b else 0) = sm B fun a => (sm B fun b => if (a, b) ∈ r then g a b else 0) + (if a = p.1 then g p.1 p.2 else 0) := by
      refine sm_congr fun a _ => ?_
      have e3 : (sm B fun b => if (a, b) ∈ p :: r then g a b else 0) = sm B fun b => (if (a, b) ∈ r then g a b else 0) + (if b = p.2 then (if a = p.1 then g p.1 p.2 else 0) else 0) := by
        refine sm_congr fun b _ => ?_
        by_cases hp : (a, b) = p
        · have ha : a = p.1 := by rw [← hp]
          have hb : b = p.2 := by rw [← hp]
          rw [if_pos (by rw [hp]; exact List.mem_cons_self ..), if_neg (by rw [hp]; exact h1), if_pos hb, if_pos ha, ha, hb]
          omega
        · have hmem : (a, b) ∈ p :: r ↔ (a, b) ∈ r := by
            constructor
            · intro h
              rcases List.mem_cons.mp h with h | h
              · exact absurd h hp
              · exact h
            · exact fun h => List.mem_cons_of_mem _ h
          have hz : (if b = p.2 then (if a = p.1 then g p.1 p.2 else 0) else 0) = 0 := by
            by_cases hb : b = p.2
            · rw [if_pos hb]
              by_cases ha : a = p.1
              · exact absurd (by rw [ha, hb]) hp
              · rw [if_neg ha]
            · rw [if_neg hb]
          rw [hz]
          simp only [hmem]
          omega
      rw [e3, sm_add, sm_one B p.2 l2 (fun _ => if a = p.1 then g p.1 p.2 else 0)]
    rw [e2, sm_add, sm_one B p.1 l1 (fun _ => g p.1 p.2)]
    omega
/-- what the pairs so far bring to (b, c) -/
def brings (R : Nat → Nat → Nat → Bool) (B : Nat) (C : Nat → Nat → Int) (ps : List (Nat × Nat)) (b c : Nat) : Int := lsum (fun x y => if y = b ∧ c < B ∧ R x y c = true then C x y else 0) ps
theorem brings_next {R : Nat → Nat → Nat → Bool} {B : Nat} {C : Nat → Nat → Int} {ps : List (Nat × Nat)} (h : Tab B ps C) (b c : Nat) : brings R B C ps b c = nextC R B C b c := by
  unfold brings nextC
  rw [lsum_sm B _ ps h.nd h.lt]
  by_cases hb : b < B ∧ c < B
  · rw [if_pos hb]
    refine sm_congr fun a _ => ?_
    rw [sm_congr (g := fun y => if y = b then (if R a b c = true then C a b else 0) else 0) fun y _ => ?_, sm_one B b hb.1 (fun _ => if R a b c = true then C a b else 0)]
    by_cases hy : y = b
    · subst hy
      rw [if_pos rfl]
      by_cases hm : (a, y) ∈ ps
      · rw [if_pos hm]
        by_cases hr : R a y c = true
        · rw [if_pos ⟨rfl, hb.2, hr⟩, if_pos hr]
        · rw [if_neg (fun z => hr z.2.2), if_neg hr]
      · rw [if_neg hm, h.out a y hm]
        split <;> rfl
    · rw [if_neg hy]
      split
      · rw [if_neg (fun z => hy z.1)]
      · rfl
  · rw [if_neg hb]
    refine sm_z B fun a _ => sm_z B fun y hy => ?_
    split
    · refine if_neg ?_
      rintro ⟨rfl, z2, _⟩
      exact hb ⟨hy, z2⟩
    · rfl
theorem ends_end {R : Nat → Nat → Nat → Bool} {B : Nat} {C : Nat → Nat → Int} {ps : List (Nat × Nat)} (h : Tab B ps C) : lsum (fun x y => if (R x y 0 && R y 0 0) = true then C x y else 0) ps = endF R B C := by
  unfold endF
  rw [lsum_sm B _ ps h.nd h.lt]
  refine sm_congr fun a _ => sm_congr fun b _ => ?_
  by_cases hm : (a, b) ∈ ps
  · rw [if_pos hm]
  · rw [if_neg hm, h.out a b hm]
    split <;> rfl
/-- a number is put -/
def put2 (C : Nat → Nat → Int) (a b : Nat) (z : Int) : Nat → Nat → Int := fun x y => if x = a ∧ y = b then z else C x y
def putP (ps : List (Nat × Nat)) (p : Nat × Nat) : List (Nat × Nat) := if p ∈ ps then ps else ps ++ [p]
theorem Tab.put {B : Nat} {ps : List (Nat × Nat)} {C : Nat → Nat → Int} (h : Tab B ps C) {a b : Nat} (ha : a < B) (hb : b < B) (z : Int) : Tab B (putP ps (a, b)) (put2 C a b z) := by
  unfold putP
  by_cases hm : (a, b) ∈ ps
  · rw [if_pos hm]
    refine ⟨h.nd, h.lt, fun x y hxy => ?_⟩
    unfold put2
    rw [if_neg (fun z => hxy (by rw [z.1, z.2]; exact hm))]
    exact h.out x y hxy
  · rw [if_neg hm]
    refine ⟨?_, fun p hp => ?_, fun x y hxy => ?_⟩
    · rw [List.nodup_append]
      refine ⟨h.nd, List.nodup_cons.mpr ⟨by simp, List.nodup_nil⟩, fun p hp q hq => ?_⟩
      rw [List.mem_singleton.mp hq]
      intro e
      exact hm (e ▸ hp)
    · rcases List.mem_append.mp hp with q | q
      · exact h.lt p q
      · rw [List.mem_singleton.mp q]; exact ⟨ha, hb⟩
    · unfold put2
      rw [if_neg (fun z => hxy (by rw [z.1, z.2]; exact List.mem_append.mpr (.inr (List.mem_singleton.mpr rfl))))]
      exact h.out x y fun z => hxy (List.mem_append.mpr (.inl z))
theorem Tab.nil (B : Nat) : Tab B [] (fun _ _ => 0) := ⟨List.nodup_nil, fun _ h => (nomatch h), fun _ _ _ => rfl⟩
theorem Tab.start {B : Nat} (hB : 0 < B) : Tab B [(0, 0)] C0 := ⟨List.nodup_cons.mpr ⟨by simp, List.nodup_nil⟩, fun p h => by rw [List.mem_singleton.mp h]; exact ⟨hB, hB⟩, fun a b h => by
  unfold C0
  rw [if_neg fun z => h (by rw [z.1, z.2]; exact List.mem_singleton.mpr rfl)]⟩
theorem Tab.congr {B : Nat} {ps : List (Nat × Nat)} {C D : Nat → Nat → Int} (h : Tab B ps C) (e : ∀ a b, D a b = C a b) : Tab B ps D := ⟨h.nd, h.lt, fun a b z => (e a b).trans (h.out a b z)⟩
end M

/-! # MH -/
namespace M
open Lean.Grind
theorem φ_sm (n : Nat) (f : Nat → Int) : φ (sm n f) = sm n (fun i => φ (f i)) := by
  induction n with
  | zero => exact φ_zero
  | succ n ih => rw [sm_succ, φ_add, ih, sm_succ]
section
variable (R : Nat → Nat → Nat → Bool) (B : Nat)
def nextF (X : Nat → Nat → Fp) : Nat → Nat → Fp := fun b c => if b < B ∧ c < B then sm B (fun a => if R a b c = true then X a b else 0) else 0
def endFF (X : Nat → Nat → Fp) : Fp := sm B fun a => sm B fun b => if (R a b 0 && R b 0 0) = true then X a b else 0
end
variable {R : Nat → Nat → Nat → Bool} {B : Nat}
theorem φ_next (C : Nat → Nat → Int) (b c : Nat) : φ (nextC R B C b c) = nextF R B (fun a b => φ (C a b)) b c := by
  unfold nextC nextF
  split
  · rw [φ_sm]
    refine sm_congr fun a _ => ?_
    split
    · rfl
    · exact φ_zero
  · exact φ_zero
theorem φ_end (C : Nat → Nat → Int) : φ (endF R B C) = endFF R B (fun a b => φ (C a b)) := by
  unfold endF endFF
  rw [φ_sm]
  refine sm_congr fun a _ => ?_
  rw [φ_sm]
  refine sm_congr fun b _ => ?_
  split
  · rfl
  · exact φ_zero
theorem sm_ite (k : Nat) (c : Prop) [Decidable c] (f : Nat → Fp) : (if c then sm k f else 0) = sm k (fun j => if c then f j else 0) := by
  split
  · rfl
  · exact (sm_z k fun _ _ => rfl).symm
theorem mul_ite (c : Prop) [Decidable c] (x y : Fp) : (if c then x * y else 0) = x * (if c then y else 0) := by
  split
  · rfl
  · grind
theorem next_lin (k : Nat) (e : Nat → Fp) (X : Nat → Nat → Nat → Fp) (b c : Nat) : nextF R B (fun a b => sm k (fun j => e j * X j a b)) b c = sm k (fun j => e j * nextF R B (X j) b c) := by
  unfold nextF
  by_cases h : b < B ∧ c < B
  · rw [if_pos h, sm_congr (g := fun a => sm k (fun j => e j * (if R a b c = true then X j a b else 0))) fun a _ => ?_, sm_swap]
    · refine sm_congr fun j _ => ?_
      rw [if_pos h, sm_mul]
    · rw [sm_ite]
      exact sm_congr fun j _ => mul_ite _ _ _
  · rw [if_neg h]
    exact (sm_z k fun j _ => by rw [if_neg h]; grind).symm
theorem end_lin (k : Nat) (e : Nat → Fp) (X : Nat → Nat → Nat → Fp) : endFF R B (fun a b => sm k (fun j => e j * X j a b)) = sm k (fun j => e j * endFF R B (X j)) := by
  unfold endFF
  rw [sm_congr (g := fun a => sm k (fun j => e j * sm B (fun b => if (R a b 0 && R b 0 0) = true then X j a b else 0))) fun a _ => ?_, sm_swap]
  · exact sm_congr fun j _ => sm_mul _ _ _
  · rw [sm_congr (g := fun b => sm k (fun j => e j * (if (R a b 0 && R b 0 0) = true then X j a b else 0))) fun b _ => ?_, sm_swap]
    · exact sm_congr fun j _ => sm_mul _ _ _
    · rw [sm_ite]
      exact sm_congr fun j _ => mul_ite _ _ _
/-- the tables, in the field -/
def XF (R : Nat → Nat → Nat → Bool) (B : Nat) (w : Nat) : Nat → Nat → Fp := fun a b => φ (Cn R B w a b)
theorem XF_succ (w : Nat) : XF R B (w + 1) = nextF R B (XF R B w) := by
  funext b c
  exact φ_next _ b c
theorem XF_out (hB : 0 < B) (w a b : Nat) (h : ¬ (a < B ∧ b < B)) : XF R B w a b = 0 := by
  cases w with
  | zero =>
    show φ (C0 a b) = 0
    unfold C0
    rw [if_neg (fun z => h ⟨by omega, by omega⟩)]
    exact φ_zero
  | succ w =>
    rw [XF_succ]
    exact if_neg h
theorem XF_rec (hB : 0 < B) : ∃ (e : Nat → Fp) (L : Nat), L ≤ B * B ∧ ∀ w, XF R B (w + L) = fun a b => sm L (fun j => e j * XF R B (w + j) a b) := by
  obtain ⟨k, hk, hs⟩ := dep hinv (B * B) (fun j i => XF R B j (i / B) (i % B))
  obtain ⟨e, he⟩ := hs.factors
  refine ⟨e, k, hk, fun w => ?_⟩
  induction w with
  | zero =>
    funext a b
    by_cases h : a < B ∧ b < B
    · have hi : a * B + b < B * B := by
        have : a * B + B ≤ B * B := by
          rw [← Nat.succ_mul]
          exact Nat.mul_le_mul_right B h.1
        omega
      have q := he (a * B + b) hi
      have d1 : (a * B + b) / B = a := by rw [Nat.mul_comm, Nat.mul_add_div hB, Nat.div_eq_of_lt h.2]; omega
      have d2 : (a * B + b) % B = b := by rw [Nat.mul_comm, Nat.mul_add_mod, Nat.mod_eq_of_lt h.2]
      simp only [d1, d2] at q
      rw [Nat.zero_add, q]
      exact sm_congr fun j _ => by rw [Nat.zero_add]
    · rw [XF_out hB _ a b h]
      exact (sm_z k fun j _ => by rw [XF_out hB _ a b h]; grind).symm
  | succ w ih =>
    rw [show w + 1 + k = w + k + 1 by omega, XF_succ, ih]
    funext b c
    rw [next_lin]
    exact sm_congr fun j _ => by rw [show w + 1 + j = w + j + 1 by omega, XF_succ]
theorem En_rec (R : Nat → Nat → Nat → Bool) (B : Nat) (hB : 0 < B) : ∃ (e : Nat → Fp) (L : Nat), L ≤ B * B ∧ Rec e L (fun w => φ (En R B w)) := by
  obtain ⟨e, L, hL, h⟩ := XF_rec (R := R) hB
  refine ⟨e, L, hL, fun w => ?_⟩
  have hE : ∀ w, φ (En R B w) = endFF R B (XF R B w) := fun w => φ_end _
  show φ (En R B (w + L)) = _
  rw [hE, h w, end_lin]
  refine sm_congr fun j _ => ?_
  show _ = e j * φ (En R B (w + j))
  rw [hE]
theorem BM.le_true {s : Nat → Fp} {e : Nat → Fp} {L : Nat} (hr : Rec e L s) {N gap : Nat} {rule old : List Fp} {last : Fp} (h : BM s N rule old gap last) : rule.length ≤ L := by
  obtain ⟨le, ok, gp, g1, chg⟩ := h
  rcases chg with ⟨c1, _⟩ | ⟨c1, c2, c3, c4, c5⟩
  · rw [c1]; exact Nat.zero_le _
  · apply Classical.byContradiction
    intro q
    have hz := uniq hr (fct old) old.length (fun n h1 h2 => c4 n h1 (by omega)) (N - gap) c3
    rw [c5] at hz
    exact c2 hz
theorem BM.all {s : Nat → Fp} {e : Nat → Fp} {L : Nat} (hr : Rec e L s) {N gap : Nat} {rule old : List Fp} {last : Fp} (h : BM s N rule old gap last) (hN : 2 * L ≤ N) : ∀ n, rule.length ≤ n → dsc s (fct rule) rule.length n = 0 :=
  h.done hr (by have := h.le_true hr; omega)
theorem eq_of_φ {r x : Int} (h : inP r) (e : φ r = φ x) : r = x % PI := by
  have := φ_eq.mp e
  rwa [Int.emod_eq_of_lt h.1 h.2] at this
end M

/-! # MI -/
namespace M
open Lean.Grind
def dd (B k j : Nat) : Nat := if j < 2 then 0 else k / B ^ (j - 2) % B
theorem dd_lo {B k j : Nat} (h : j < 2) : dd B k j = 0 := if_pos h
theorem dd_hi {B k j : Nat} : dd B k (j + 2) = k / B ^ j % B := by
  unfold dd
  rw [if_neg (by omega), Nat.add_sub_cancel]
theorem dd_lt {B k j : Nat} (hB : 0 < B) : dd B k j < B := by
  unfold dd
  split
  · exact hB
  · exact Nat.mod_lt _ hB
theorem dd_out {B k j w : Nat} (hB : 0 < B) (hk : k < B ^ w) (h : w ≤ j) : dd B k (j + 2) = 0 := by
  rw [dd_hi, Nat.div_eq_of_lt (Nat.lt_of_lt_of_le hk (Nat.pow_le_pow_right hB h)), Nat.zero_mod]
theorem dd_zero {B j : Nat} : dd B 0 j = 0 := by
  unfold dd
  split
  · rfl
  · rw [Nat.zero_div, Nat.zero_mod]
theorem dd_join {B w c k j : Nat} (hB : 0 < B) (hj : j < w + 2) : dd B (c * B ^ w + k) j = dd B k j := by
  by_cases h2 : j < 2
  · rw [dd_lo h2, dd_lo h2]
  · obtain ⟨i, rfl⟩ : ∃ i, j = i + 2 := ⟨j - 2, by omega⟩
    rw [dd_hi, dd_hi]
    obtain ⟨d, rfl⟩ : ∃ d, w = i + 1 + d := ⟨w - (i + 1), by omega⟩
    have e : c * B ^ (i + 1 + d) + k = B ^ i * (B * (c * B ^ d)) + k := by
      rw [Nat.pow_add, Nat.pow_succ]
      congr 1
      rw [Nat.mul_left_comm c, Nat.mul_assoc]
    rw [e, Nat.mul_add_div (Nat.pow_pos hB), Nat.mul_add_mod]
theorem dd_top {B w c k : Nat} (hB : 0 < B) (hc : c < B) (hk : k < B ^ w) : dd B (c * B ^ w + k) (w + 2) = c := by
  rw [dd_hi, Nat.mul_comm, Nat.mul_add_div (Nat.pow_pos hB), Nat.div_eq_of_lt hk, Nat.add_zero, Nat.mod_eq_of_lt hc]
def preB (R : Nat → Nat → Nat → Bool) (B w k : Nat) : Bool := (List.range w).all fun j => R (dd B k j) (dd B k (j + 1)) (dd B k (j + 2))
theorem preB_succ (R : Nat → Nat → Nat → Bool) (B w k : Nat) : preB R B (w + 1) k = (preB R B w k && R (dd B k w) (dd B k (w + 1)) (dd B k (w + 2))) := by
  unfold preB
  rw [List.range_succ, List.all_append]
  simp
theorem all_congr {n : Nat} {f g : Nat → Bool} (h : ∀ i, i < n → f i = g i) : (List.range n).all f = (List.range n).all g := by
  rw [Bool.eq_iff_iff, List.all_eq_true, List.all_eq_true]
  constructor
  · intro a x hx; rw [← h x (List.mem_range.mp hx)]; exact a x hx
  · intro a x hx; rw [h x (List.mem_range.mp hx)]; exact a x hx
theorem preB_join {R : Nat → Nat → Nat → Bool} {B w c k : Nat} (hB : 0 < B) : preB R B w (c * B ^ w + k) = preB R B w k := by
  unfold preB
  refine all_congr fun j hj => ?_
  rw [dd_join hB (by omega), dd_join hB (by omega), dd_join hB (by omega)]
theorem sm_append (a b : Nat) (f : Nat → Int) : sm (a + b) f = sm a f + sm b (fun i => f (a + i)) := by
  induction b with
  | zero => show sm a f = sm a f + 0; rw [Int.add_zero]
  | succ b ih => rw [← Nat.add_assoc, sm_succ, ih, sm_succ, Int.add_assoc]
theorem sm_split (n : Nat) (f : Nat → Int) : ∀ m, sm (n * m) f = sm m (fun c => sm n (fun k => f (c * n + k)))
  | 0 => rfl
  | m + 1 => by
    rw [Nat.mul_succ, sm_append, sm_split n f m, sm_succ]
    congr 1
    exact sm_congr fun k _ => by rw [Nat.mul_comm]
/-- the tables, weighed -/
theorem Cn_count {R : Nat → Nat → Nat → Bool} {B : Nat} (hB : 0 < B) : ∀ (w : Nat) (g : Nat → Nat → Int), sm B (fun a => sm B (fun b => Cn R B w a b * g a b)) = sm (B ^ w) (fun k => if preB R B w k = true then g (dd B k w) (dd B k (w + 1)) else 0)
  | 0, g => by
    have h1 : ∀ a, sm B (fun b => Cn R B 0 a b * g a b) = if a = 0 then g 0 0 else 0 := fun a => by
      by_cases ha : a = 0
      · subst ha
        rw [if_pos rfl, sm_congr (g := fun b => if b = 0 then g 0 b else 0) fun b _ => ?_, sm_one B 0 hB (fun b => g 0 b)]
        show (if 0 = 0 ∧ b = 0 then (1 : Int) else 0) * g 0 b = _
        by_cases hb : b = 0
        · rw [if_pos ⟨rfl, hb⟩, if_pos hb, Int.one_mul]
        · rw [if_neg (fun z => hb z.2), if_neg hb, Int.zero_mul]
      · rw [if_neg ha]
        refine sm_z B fun b _ => ?_
        show (if a = 0 ∧ b = 0 then (1 : Int) else 0) * g a b = 0
        rw [if_neg (fun z => ha z.1), Int.zero_mul]
    rw [sm_congr fun a _ => h1 a, sm_one B 0 hB (fun _ => g 0 0)]
    show g 0 0 = 0 + _
    rw [Int.zero_add]
    rfl
  | w + 1, g => by
    have ih := Cn_count (R := R) hB w fun a b => sm B fun c => if R a b c = true then g b c else 0
    have l1 : sm B (fun b => sm B (fun c => Cn R B (w + 1) b c * g b c)) = sm B (fun a => sm B (fun b => Cn R B w a b * sm B fun c => if R a b c = true then g b c else 0)) := by
      rw [sm_swap B B fun a b => Cn R B w a b * sm B fun c => if R a b c = true then g b c else 0]
      refine sm_congr fun b hb => ?_
      rw [sm_congr (g := fun a => sm B fun c => Cn R B w a b * (if R a b c = true then g b c else 0)) fun a _ => (sm_mul _ _ _).symm, sm_swap]
      refine sm_congr fun c hc => ?_
      show (if b < B ∧ c < B then sm B (fun a => if R a b c = true then Cn R B w a b else 0) else 0) * g b c = _
      rw [if_pos ⟨hb, hc⟩, Int.mul_comm, ← sm_mul]
      refine sm_congr fun a _ => ?_
      split
      · rw [Int.mul_comm]
      · rw [Int.mul_zero, Int.mul_zero]
    rw [l1, ih, Nat.pow_succ, sm_split]
    rw [sm_congr (n := B) (g := fun c => sm (B ^ w) fun k => if preB R B w k = true then (if R (dd B k w) (dd B k (w + 1)) c = true then g (dd B k (w + 1)) c else 0) else 0) fun c hc => sm_congr fun k hk => ?_]
    · rw [sm_swap]
      refine sm_congr fun k _ => ?_
      split
      · rfl
      · exact (sm_z B fun _ _ => rfl).symm
    · rw [preB_succ, preB_join hB, dd_join hB (by omega), dd_join hB (by omega), dd_top hB hc hk]
      cases preB R B w k <;> cases R (dd B k w) (dd B k (w + 1)) c <;> rfl
theorem En_count {R : Nat → Nat → Nat → Bool} {B : Nat} (hB : 0 < B) (w : Nat) : En R B w = sm (B ^ w) (fun k => if preB R B (w + 2) k = true then 1 else 0) := by
  have h := Cn_count (R := R) hB w fun a b => if (R a b 0 && R b 0 0) = true then 1 else 0
  have l : En R B w = sm B (fun a => sm B (fun b => Cn R B w a b * (if (R a b 0 && R b 0 0) = true then 1 else 0))) := by
    unfold En endF
    refine sm_congr fun a _ => sm_congr fun b _ => ?_
    split
    · rw [Int.mul_one]
    · rw [Int.mul_zero]
  rw [l, h]
  refine sm_congr fun k hk => ?_
  rw [preB_succ, preB_succ, show w + 1 + 2 = (w + 1) + 2 from rfl, dd_out (j := w + 1) hB hk (by omega), show dd B k (w + 2) = 0 from dd_out hB hk (Nat.le_refl _)]
  cases preB R B w k <;> cases R (dd B k w) (dd B k (w + 1)) 0 <;> cases R (dd B k (w + 1)) 0 0 <;> rfl
theorem sm_filter (p : Nat → Bool) : ∀ n, sm n (fun k => if p k = true then (1 : Int) else 0) = (((List.range n).filter p).length : Int)
  | 0 => rfl
  | n + 1 => by
    rw [sm_succ, sm_filter p n, List.range_succ, List.filter_append, List.length_append, List.filter_cons]
    cases p n <;> simp
theorem preB_zero {R : Nat → Nat → Nat → Bool} {B : Nat} (h : R 0 0 0 = true) (w : Nat) : preB R B w 0 = true := by
  unfold preB
  rw [List.all_eq_true]
  intro j _
  rw [dd_zero, dd_zero, dd_zero, h]
end M

/-! # K0 -/
namespace FB
open PySem PySem.Spec PyProof.Rows L2
def topS (i : Nat) : Stmt := PySem.Challenge.pw_fateboards_k27_whole_strips.main.body.getD i (.Pass ⟨0, 0, 0, 0⟩)
abbrev s_is_in : Stmt := topS 6
abbrev N_is_in : List Str := ["value", "least", "most"]
theorem sc_is_in : FnScope N_is_in ["value", "least", "most"] (defScope s_is_in) := ⟨rfl, rfl, rfl, by decide +kernel, rfl, by decide +kernel, by decide +kernel⟩
abbrev s_are_counts : Stmt := topS 7
abbrev N_are_counts : List Str := ["value", "least", "one"]
theorem sc_are_counts : FnScope N_are_counts ["value", "least"] (defScope s_are_counts) := ⟨rfl, rfl, rfl, by decide +kernel, rfl, by decide +kernel, by decide +kernel⟩
abbrev s_is_rule : Stmt := topS 8
abbrev N_is_rule : List Str := ["rule"]
theorem sc_is_rule : FnScope N_is_rule ["rule"] (defScope s_is_rule) := ⟨rfl, rfl, rfl, by decide +kernel, rfl, by decide +kernel, by decide +kernel⟩
abbrev s_need_rule : Stmt := topS 9
abbrev N_need_rule : List Str := ["rule"]
theorem sc_need_rule : FnScope N_need_rule ["rule"] (defScope s_need_rule) := ⟨rfl, rfl, rfl, by decide +kernel, rfl, by decide +kernel, by decide +kernel⟩
abbrev s_rests : Stmt := topS 15
abbrev N_rests : List Str := ["rule", "columns", "high", "y", "near", "here", "column", "row"]
theorem sc_rests : FnScope N_rests ["rule", "columns", "high"] (defScope s_rests) := ⟨rfl, rfl, rfl, by decide +kernel, rfl, by decide +kernel, by decide +kernel⟩
abbrev s_ways_on : Stmt := topS 16
abbrev N_ways_on : List Str := ["rule", "high", "columns", "found", "one", "two", "three"]
theorem sc_ways_on : FnScope N_ways_on ["rule", "high"] (defScope s_ways_on) := ⟨rfl, rfl, rfl, by decide +kernel, rfl, by decide +kernel, by decide +kernel⟩
abbrev s_counts_on : Stmt := topS 17
abbrev N_counts_on : List Str := ["ways", "counts", "modulus", "found", "pair", "three", "after", "total"]
theorem sc_counts_on : FnScope N_counts_on ["ways", "counts", "modulus"] (defScope s_counts_on) := ⟨rfl, rfl, rfl, by decide +kernel, rfl, by decide +kernel, by decide +kernel⟩
abbrev s_ends_of : Stmt := topS 18
abbrev N_ends_of : List Str := ["ways", "counts", "found", "pair"]
theorem sc_ends_of : FnScope N_ends_of ["ways", "counts"] (defScope s_ends_of) := ⟨rfl, rfl, rfl, by decide +kernel, rfl, by decide +kernel, by decide +kernel⟩
abbrev s_numbers_to : Stmt := topS 19
abbrev N_numbers_to : List Str := ["rule", "high", "last", "modulus", "ways", "counts", "found", "wide"]
theorem sc_numbers_to : FnScope N_numbers_to ["rule", "high", "last", "modulus"] (defScope s_numbers_to) := ⟨rfl, rfl, rfl, by decide +kernel, rfl, by decide +kernel, by decide +kernel⟩
abbrev s_need_strip : Stmt := topS 20
abbrev N_need_strip : List Str := ["rule", "high", "wide", "most"]
theorem sc_need_strip : FnScope N_need_strip ["rule", "high", "wide", "most"] (defScope s_need_strip) := ⟨rfl, rfl, rfl, by decide +kernel, rfl, by decide +kernel, by decide +kernel⟩
abbrev s_stills_in_strip : Stmt := topS 21
abbrev N_stills_in_strip : List Str := ["rule", "high", "wide"]
theorem sc_stills_in_strip : FnScope N_stills_in_strip ["rule", "high", "wide"] (defScope s_stills_in_strip) := ⟨rfl, rfl, rfl, by decide +kernel, rfl, by decide +kernel, by decide +kernel⟩
abbrev s_stills_far : Stmt := topS 22
abbrev N_stills_far : List Str := ["rule", "high", "wide", "states", "numbers"]
theorem sc_stills_far : FnScope N_stills_far ["rule", "high", "wide"] (defScope s_stills_far) := ⟨rfl, rfl, rfl, by decide +kernel, rfl, by decide +kernel, by decide +kernel⟩
abbrev s_inverse : Stmt := topS 23
abbrev N_inverse : List Str := ["number", "found", "square", "many"]
theorem sc_inverse : FnScope N_inverse ["number"] (defScope s_inverse) := ⟨rfl, rfl, rfl, by decide +kernel, rfl, by decide +kernel, by decide +kernel⟩
abbrev s_shortest_rule : Stmt := topS 24
abbrev N_shortest_rule : List Str := ["numbers", "rule", "old", "gap", "last", "length", "at", "number", "back", "factor", "miss", "part", "before", "grown"]
theorem sc_shortest_rule : FnScope N_shortest_rule ["numbers"] (defScope s_shortest_rule) := ⟨rfl, rfl, rfl, by decide +kernel, rfl, by decide +kernel, by decide +kernel⟩
abbrev s_far_number : Stmt := topS 25
abbrev N_far_number : List Str := ["numbers", "rule", "place", "size", "found", "power", "many", "at", "factor"]
theorem sc_far_number : FnScope N_far_number ["numbers", "rule", "place"] (defScope s_far_number) := ⟨rfl, rfl, rfl, by decide +kernel, rfl, by decide +kernel, by decide +kernel⟩
abbrev s_times_step : Stmt := topS 26
abbrev N_times_step : List Str := ["row", "rule", "size", "top", "at"]
theorem sc_times_step : FnScope N_times_step ["row", "rule"] (defScope s_times_step) := ⟨rfl, rfl, rfl, by decide +kernel, rfl, by decide +kernel, by decide +kernel⟩
abbrev s_times : Stmt := topS 27
abbrev N_times : List Str := ["one", "two", "rule", "size", "found", "here", "factor", "a", "b"]
theorem sc_times : FnScope N_times ["one", "two", "rule"] (defScope s_times) := ⟨rfl, rfl, rfl, by decide +kernel, rfl, by decide +kernel, by decide +kernel⟩
abbrev s__law_taken : Stmt := topS 29
abbrev N__law_taken : List Str := ["_law_row", "_law_many", "_law_found", "_law_cell"]
theorem sc__law_taken : FnScope N__law_taken ["_law_row", "_law_many"] (defScope s__law_taken) := ⟨rfl, rfl, rfl, by decide +kernel, rfl, by decide +kernel, by decide +kernel⟩
abbrev s__law_pick : Stmt := topS 30
abbrev N__law_pick : List Str := ["_law_row", "_law_things"]
theorem sc__law_pick : FnScope N__law_pick ["_law_row", "_law_things"] (defScope s__law_pick) := ⟨rfl, rfl, rfl, by decide +kernel, rfl, by decide +kernel, by decide +kernel⟩
abbrev s__law_some_rule : Stmt := topS 31
abbrev N__law_some_rule : List Str := ["_law_row", "_law_way", "_law_births", "_law_stays", "_law_k"]
theorem sc__law_some_rule : FnScope N__law_some_rule ["_law_row"] (defScope s__law_some_rule) := ⟨rfl, rfl, rfl, by decide +kernel, rfl, by decide +kernel, by decide +kernel⟩
abbrev s__law_around : Stmt := topS 32
abbrev N__law_around : List Str := ["_law_place", "_law_found", "_law_a", "_law_b"]
theorem sc__law_around : FnScope N__law_around ["_law_place"] (defScope s__law_around) := ⟨rfl, rfl, rfl, by decide +kernel, rfl, by decide +kernel, by decide +kernel⟩
abbrev s__law_step : Stmt := topS 33
abbrev N__law_step : List Str := ["_law_rule", "_law_board", "_law_cell", "_law_cells", "_law_places", "_law_found", "_law_place", "_law_near", "_law_state", "_law_new", "_law_one"]
theorem sc__law_step : FnScope N__law_step ["_law_rule", "_law_board"] (defScope s__law_step) := ⟨rfl, rfl, rfl, by decide +kernel, rfl, by decide +kernel, by decide +kernel⟩
abbrev s__law_alike : Stmt := topS 34
abbrev N__law_alike : List Str := ["_law_found", "_law_due", "_law_k"]
theorem sc__law_alike : FnScope N__law_alike ["_law_found", "_law_due"] (defScope s__law_alike) := ⟨rfl, rfl, rfl, by decide +kernel, rfl, by decide +kernel, by decide +kernel⟩
abbrev s_law : Stmt := topS 35
abbrev N_law : List Str := ["_law_script", "_law_row", "_law_rule", "_law_high", "_law_wide", "_law_many", "_law_prime", "_law_number", "_law_board", "_law_x", "_law_numbers", "_law_far", "_law_start", "_law_size", "_law_rows", "_law_near", "_law_a", "_law_b", "_law_c", "_law_bad", "_law_at", "_law_k", "_law_y"]
theorem sc_law : FnScope N_law ["_law_script"] (defScope s_law) := ⟨rfl, rfl, rfl, by decide +kernel, rfl, by decide +kernel, by decide +kernel⟩
structure Txt (K : PySem.W.Frag) (mg : Str → Option Value) : Type where
  f_is_in : Addr
  d_is_in : FuncData
  F_is_in : Fun K "is_in" "is_in" s_is_in f_is_in d_is_in
  g_is_in : mg "is_in" = some (.ref f_is_in)
  b_is_in : Binds K d_is_in ["value", "least", "most"] []
  f_are_counts : Addr
  d_are_counts : FuncData
  F_are_counts : Fun K "are_counts" "are_counts" s_are_counts f_are_counts d_are_counts
  g_are_counts : mg "are_counts" = some (.ref f_are_counts)
  b_are_counts : Binds K d_are_counts ["value", "least"] []
  f_is_rule : Addr
  d_is_rule : FuncData
  F_is_rule : Fun K "is_rule" "is_rule" s_is_rule f_is_rule d_is_rule
  g_is_rule : mg "is_rule" = some (.ref f_is_rule)
  b_is_rule : Binds K d_is_rule ["rule"] []
  f_need_rule : Addr
  d_need_rule : FuncData
  F_need_rule : Fun K "need_rule" "need_rule" s_need_rule f_need_rule d_need_rule
  g_need_rule : mg "need_rule" = some (.ref f_need_rule)
  b_need_rule : Binds K d_need_rule ["rule"] []
  f_rests : Addr
  d_rests : FuncData
  F_rests : Fun K "rests" "rests" s_rests f_rests d_rests
  g_rests : mg "rests" = some (.ref f_rests)
  b_rests : Binds K d_rests ["rule", "columns", "high"] []
  f_ways_on : Addr
  d_ways_on : FuncData
  F_ways_on : Fun K "ways_on" "ways_on" s_ways_on f_ways_on d_ways_on
  g_ways_on : mg "ways_on" = some (.ref f_ways_on)
  b_ways_on : Binds K d_ways_on ["rule", "high"] []
  f_counts_on : Addr
  d_counts_on : FuncData
  F_counts_on : Fun K "counts_on" "counts_on" s_counts_on f_counts_on d_counts_on
  g_counts_on : mg "counts_on" = some (.ref f_counts_on)
  b_counts_on : Binds K d_counts_on ["ways", "counts", "modulus"] []
  f_ends_of : Addr
  d_ends_of : FuncData
  F_ends_of : Fun K "ends_of" "ends_of" s_ends_of f_ends_of d_ends_of
  g_ends_of : mg "ends_of" = some (.ref f_ends_of)
  b_ends_of : Binds K d_ends_of ["ways", "counts"] []
  f_numbers_to : Addr
  d_numbers_to : FuncData
  F_numbers_to : Fun K "numbers_to" "numbers_to" s_numbers_to f_numbers_to d_numbers_to
  g_numbers_to : mg "numbers_to" = some (.ref f_numbers_to)
  b_numbers_to : Binds K d_numbers_to ["rule", "high", "last", "modulus"] []
  f_need_strip : Addr
  d_need_strip : FuncData
  F_need_strip : Fun K "need_strip" "need_strip" s_need_strip f_need_strip d_need_strip
  g_need_strip : mg "need_strip" = some (.ref f_need_strip)
  b_need_strip : Binds K d_need_strip ["rule", "high", "wide", "most"] []
  f_stills_in_strip : Addr
  d_stills_in_strip : FuncData
  F_stills_in_strip : Fun K "stills_in_strip" "stills_in_strip" s_stills_in_strip f_stills_in_strip d_stills_in_strip
  g_stills_in_strip : mg "stills_in_strip" = some (.ref f_stills_in_strip)
  b_stills_in_strip : Binds K d_stills_in_strip ["rule", "high", "wide"] []
  f_stills_far : Addr
  d_stills_far : FuncData
  F_stills_far : Fun K "stills_far" "stills_far" s_stills_far f_stills_far d_stills_far
  g_stills_far : mg "stills_far" = some (.ref f_stills_far)
  b_stills_far : Binds K d_stills_far ["rule", "high", "wide"] []
  f_inverse : Addr
  d_inverse : FuncData
  F_inverse : Fun K "inverse" "inverse" s_inverse f_inverse d_inverse
  g_inverse : mg "inverse" = some (.ref f_inverse)
  b_inverse : Binds K d_inverse ["number"] []
  f_shortest_rule : Addr
  d_shortest_rule : FuncData
  F_shortest_rule : Fun K "shortest_rule" "shortest_rule" s_shortest_rule f_shortest_rule d_shortest_rule
  g_shortest_rule : mg "shortest_rule" = some (.ref f_shortest_rule)
  b_shortest_rule : Binds K d_shortest_rule ["numbers"] []
  f_far_number : Addr
  d_far_number : FuncData
  F_far_number : Fun K "far_number" "far_number" s_far_number f_far_number d_far_number
  g_far_number : mg "far_number" = some (.ref f_far_number)
  b_far_number : Binds K d_far_number ["numbers", "rule", "place"] []
  f_times_step : Addr
  d_times_step : FuncData
  F_times_step : Fun K "times_step" "times_step" s_times_step f_times_step d_times_step
  g_times_step : mg "times_step" = some (.ref f_times_step)
  b_times_step : Binds K d_times_step ["row", "rule"] []
  f_times : Addr
  d_times : FuncData
  F_times : Fun K "times" "times" s_times f_times d_times
  g_times : mg "times" = some (.ref f_times)
  b_times : Binds K d_times ["one", "two", "rule"] []
  f__law_taken : Addr
  d__law_taken : FuncData
  F__law_taken : Fun K "_law_taken" "_law_taken" s__law_taken f__law_taken d__law_taken
  g__law_taken : mg "_law_taken" = some (.ref f__law_taken)
  b__law_taken : Binds K d__law_taken ["_law_row", "_law_many"] []
  f__law_pick : Addr
  d__law_pick : FuncData
  F__law_pick : Fun K "_law_pick" "_law_pick" s__law_pick f__law_pick d__law_pick
  g__law_pick : mg "_law_pick" = some (.ref f__law_pick)
  b__law_pick : Binds K d__law_pick ["_law_row", "_law_things"] []
  f__law_some_rule : Addr
  d__law_some_rule : FuncData
  F__law_some_rule : Fun K "_law_some_rule" "_law_some_rule" s__law_some_rule f__law_some_rule d__law_some_rule
  g__law_some_rule : mg "_law_some_rule" = some (.ref f__law_some_rule)
  b__law_some_rule : Binds K d__law_some_rule ["_law_row"] []
  f__law_around : Addr
  d__law_around : FuncData
  F__law_around : Fun K "_law_around" "_law_around" s__law_around f__law_around d__law_around
  g__law_around : mg "_law_around" = some (.ref f__law_around)
  b__law_around : Binds K d__law_around ["_law_place"] []
  f__law_step : Addr
  d__law_step : FuncData
  F__law_step : Fun K "_law_step" "_law_step" s__law_step f__law_step d__law_step
  g__law_step : mg "_law_step" = some (.ref f__law_step)
  b__law_step : Binds K d__law_step ["_law_rule", "_law_board"] []
  f__law_alike : Addr
  d__law_alike : FuncData
  F__law_alike : Fun K "_law_alike" "_law_alike" s__law_alike f__law_alike d__law_alike
  g__law_alike : mg "_law_alike" = some (.ref f__law_alike)
  b__law_alike : Binds K d__law_alike ["_law_found", "_law_due"] []
  f_law : Addr
  d_law : FuncData
  F_law : Fun K "law" "law" s_law f_law d_law
  g_law : mg "law" = some (.ref f_law)
  b_law : Binds K d_law ["_law_script"] []
  z_isinstance : mg "isinstance" = none
  z_int : mg "int" = none
  z_bool : mg "bool" = none
  z_tuple : mg "tuple" = none
  z_list : mg "list" = none
  z_sorted : mg "sorted" = none
  z_set : mg "set" = none
  z_len : mg "len" = none
  z_range : mg "range" = none
  z_enumerate : mg "enumerate" = none
  z_sum : mg "sum" = none
  z_max : mg "max" = none
  z_zip : mg "zip" = none
  z_dict : mg "dict" = none
  z_str : mg "str" = none
  t_MOST_STATES : Tok
  c_MOST_STATES : mg "MOST_STATES" = some (.int 6 t_MOST_STATES)
  t_MOST_HIGH : Tok
  c_MOST_HIGH : mg "MOST_HIGH" = some (.int 3 t_MOST_HIGH)
  t_MOST_WIDE : Tok
  c_MOST_WIDE : mg "MOST_WIDE" = some (.int 200 t_MOST_WIDE)
  t_FARTHEST : Tok
  c_FARTHEST : mg "FARTHEST" = some (.int 1000000000000000000000000000000000000000000000000000000000000 t_FARTHEST)
  t_PRIME : Tok
  c_PRIME : mg "PRIME" = some (.int 2305843009213693951 t_PRIME)
end FB

/-! # K1 -/
namespace FB
open PySem PySem.Spec PyProof.Rows L2
theorem isi {K : PySem.W.Frag} {x : V} {t T : String} {b : Bool} {H : Hp} {Q : VK} (ty : TyX K H x (.type t)) (e : kitB t T = some b) (q : Q (.bl b) H) : rIsi K [x, .ty T] H Q :=
  ⟨x, .ty T, .type t, .type T, b, rfl, .ty T, ty, kit_ty e, q⟩
theorem inV_int (n : Int) : ∀ ns : List Int, inV (.int n) (ns.map V.int) = decide (n ∈ ns)
  | [] => rfl
  | m :: r => by
    have h := inV_int n r
    unfold inV at h ⊢
    rw [List.map_cons, List.any_cons, h]
    show (m == n || _) = _
    by_cases e : m = n
    · subst e; simp
    · have e2 : ¬ n = m := fun z => e z.symm
      simp [e, e2]
theorem flat_ints : ∀ ns : List Int, (ns.map V.int).all flatV = true
  | [] => rfl
  | m :: r => by
    rw [List.map_cons, List.all_cons, flat_ints r]
    rfl
theorem bit1 {x : Int} (hx : 0 ≤ x) : Builtin.bitAnd x 1 = x % 2 := Bits.bitAnd_mask 1 hx
/-- a rule's tuple -/
def RuleAt (K : PySem.W.Frag) (H : Hp) (r : Addr) (bs ss : List Int) (n : Int) : Prop := ∃ b s : Addr, SqT K H r [.ref b, .ref s, .int n] ∧ SqT K H b (bs.map V.int) ∧ SqT K H s (ss.map V.int)
theorem RuleAt.ex {K : PySem.W.Frag} {H H' : Hp} {r : Addr} {bs ss : List Int} {n : Int} (e : Evl.Ex H H') (h : RuleAt K H r bs ss n) : RuleAt K H' r bs ss n :=
  let ⟨b, s, h1, h2, h3⟩ := h
  ⟨b, s, Evl.ex_t e h1, Evl.ex_t e h2, Evl.ex_t e h3⟩
/-! ### one column's rest -/
def bitA (h : Int) (c y : Int) : Int := if 0 ≤ y ∧ y < h then c / 2 ^ y.toNat % 2 else 0
/-- the bits of a column in the rows y - 1 and on, k of them -/
def colN (h c y : Int) : Nat → Int
  | 0 => 0
  | k + 1 => colN h c y k + bitA h c (y - 1 + (k : Int))
def colsN (h : Int) (cs : List Int) (y : Int) : Int := (cs.map fun c => colN h c y 3).sum
def okA (bs ss : List Int) (h a b c y : Int) : Bool :=
  decide (colsN h [a, b, c] y - bitA h b y ∈ (if bitA h b y = 1 then ss else bs)) == decide (bitA h b y = 1)
def restsM (bs ss : List Int) (h a b c : Int) : Bool := (List.range (h + 2).toNat).all fun k => okA bs ss h a b c ((k : Int) - 1)
/-! ### readings, applied -/
section
variable {ta tb tc te : TE} {t u : TT} {tar tr : TA} {σ : L2.St} {H : Hp} {Q : VK} {QT : Bool → Hp → Prop} {QA : List V → Hp → Prop} {D : Ends} {a b : TS} {g : TG} {r r' : R2}
theorem ap_Var {i : Nat} : tVar i σ H Q = ∃ v, σ[i]? = some (some v) ∧ Q v H := rfl
theorem ap_C {v : V} : tC v σ H Q = Q v H := rfl
theorem ap_Op : tOp r ta tb σ H Q = ta σ H fun x H1 => tb σ H1 fun y H2 => r x y H2 Q := rfl
theorem ap_Un {r : V → Hp → VK → Prop} : tUn r ta σ H Q = ta σ H fun x H1 => r x H1 Q := rfl
theorem ap_I {C : Int → Int → Prop} {f : Int → Int → V} {x y : V} : rI C f x y H Q = ∃ i j, x = .int i ∧ y = .int j ∧ C i j ∧ Q (f i j) H := rfl
theorem ap_I0 {f : Int → Int → V} {x y : V} : rI0 f x y H Q = ∃ i j, x = .int i ∧ y = .int j ∧ Q (f i j) H := rfl
theorem ap_U {f : Int → V} {x : V} : rU f x H Q = ∃ i, x = .int i ∧ Q (f i) H := rfl
theorem ap_Eq {x y : V} : rEq x y H Q = (scal x y = true ∧ Q (.bl (decide (x = y))) H) := rfl
theorem ap_Ne {x y : V} : rNe x y H Q = (scal x y = true ∧ Q (.bl (!decide (x = y))) H) := rfl
theorem ap_If : tIf t ta tb σ H Q = t σ H fun c H1 => if c = true then ta σ H1 Q else tb σ H1 Q := rfl
theorem ap_Test : tTest te σ H QT = te σ H fun x H' => ∃ k, x = .bl k ∧ QT k H' := rfl
theorem ap_B : tB te σ H QT = te σ H fun x H1 => ∃ c, x = .bl c ∧ QT c H1 := rfl
theorem ap_And : tAnd t u σ H QT = t σ H fun c H1 => if c = true then u σ H1 QT else QT false H1 := rfl
theorem ap_Or : tOr t u σ H QT = t σ H fun c H1 => if c = true then QT true H1 else u σ H1 QT := rfl
theorem ap_Not : tNot t σ H QT = t σ H fun c H1 => QT (!c) H1 := rfl
theorem ap_AndV : tAndV ta tb σ H Q = ta σ H fun x H1 => ∃ c, x = .bl c ∧ if c = true then tb σ H1 Q else Q (.bl false) H1 := rfl
theorem ap_OrV : tOrV ta tb σ H Q = ta σ H fun x H1 => ∃ c, x = .bl c ∧ if c = true then Q (.bl true) H1 else tb σ H1 Q := rfl
theorem ap_NotV : tNotV ta σ H Q = ta σ H fun x H1 => ∃ c, x = .bl c ∧ Q (.bl (!c)) H1 := rfl
theorem ap_Chain : tChain r r' ta tb tc σ H Q = ta σ H fun x H1 => tb σ H1 fun y H2 => r x y H2 fun z H3 => ∃ k, z = .bl k ∧ (if k = true then tc σ H3 fun w' H4 => r' y w' H4 Q else Q (.bl false) H3) := rfl
theorem ap_CB {r : List V → Hp → VK → Prop} : tCB r tar σ H Q = tar σ H fun vs H1 => r vs H1 Q := rfl
theorem ap_Nil : tNil σ H QA = QA [] H := rfl
theorem ap_Cons : tCons ta tr σ H QA = ta σ H fun x H1 => tr σ H1 fun xs H2 => QA (x :: xs) H2 := rfl
theorem ap_Call {sp : Sp} {dvs : List V} {E : XK} : tCall sp dvs E tar σ H Q = tar σ H fun vs H1 => sp (vs ++ dvs) H1 Q E := rfl
theorem ap_Asg : tAsg te g D σ H = te σ H fun x H1 => g x σ H1 D.nx := rfl
theorem ap_gName {i : Nat} {v : V} {R : L2.St → Hp → Prop} : gName i v σ H R = R (σ.set i (some v)) H := rfl
theorem ap_Seq : tSeq a b D σ H = a { D with nx := b D } σ H := rfl
theorem ap_Next : tNext D σ H = D.nx σ H := rfl
theorem ap_Cont : tCont D σ H = D.ct σ H := rfl
theorem ap_Ret : tRet te D σ H = te σ H D.rt := rfl
theorem ap_IfS : tIfS t a b D σ H = t σ H fun k H1 => if k = true then a D σ H1 else b D σ H1 := rfl
theorem ap_Par {i j : Nat} : tPar i j tar D σ H = tar σ H fun vs H1 => ∃ v w, vs = [v, w] ∧ D.nx ((σ.set i (some v)).set j (some w)) H1 := rfl
theorem ap_Par3 {i j l : Nat} : tPar3 i j l tar D σ H = tar σ H fun vs H1 => ∃ u v w, vs = [u, v, w] ∧ D.nx (((σ.set i (some u)).set j (some v)).set l (some w)) H1 := rfl
theorem ap_Aug {i : Nat} {ti : TIp} : tAug i te ti D σ H = ∃ x, σ[i]? = some (some x) ∧ te σ H fun y H1 => ti x y H1 fun z H2 => D.nx (σ.set i (some z)) H2 := rfl
theorem ap_ip {f : Int → Int → Int} {x y : V} : ipI f x y H Q = ∃ i j, x = .int i ∧ y = .int j ∧ Q (.int (f i j)) H := rfl
theorem ap_Drop : tDrop te D σ H = te σ H fun _ H1 => D.nx σ H1 := rfl
theorem ap_Lst : tLst tar σ H Q = tar σ H fun xs H1 => xs.length ≤ sizeLine ∧ ∀ p, H1 p = none → Q (.ref p) (upd H1 p (.lst xs)) := rfl
theorem ap_Tup : tTup tar σ H Q = tar σ H fun xs H1 => xs.length ≤ sizeLine ∧ ∀ p, H1 p = none → Q (.ref p) (upd H1 p (.tup xs)) := rfl
theorem ap_gTup {K : PySem.W.Frag} {n : Nat} {gs : TGs} {v : V} {R : L2.St → Hp → Prop} : gTup K n gs v σ H R = ∃ a xs, v = .ref a ∧ SqT K H a xs ∧ xs.length = n ∧ gs xs σ H R := rfl
theorem ap_gCons {gs : TGs} {vs : List V} {R : L2.St → Hp → Prop} : gCons g gs vs σ H R = ∃ v r, vs = v :: r ∧ g v σ H fun σ' H' => gs r σ' H' R := rfl
theorem ap_gNil {vs : List V} {R : L2.St → Hp → Prop} : gNil vs σ H R = (vs = [] ∧ R σ H) := rfl
theorem ap_gSub {to ti : TE} {ts : TSet} {v : V} {R : L2.St → Hp → Prop} : gSub to ti ts v σ H R = to σ H fun o H1 => ti σ H1 fun i H2 => ts o i v H2 fun H3 => R σ H3 := rfl
theorem ap_Yes : tYes σ H QT = QT true H := rfl
end
/-! ### statements -/
section
variable {K : PySem.W.Frag} {σ : L2.St} {H : Hp} {tar : TA} {te : TE} {D : Ends} {a b : TS} {g : TG} {t : TT}
theorem s_par {i j : Nat} {v w : V} (h : Evl.EvA tar σ H [v, w]) (k : ∀ H1, Evl.Ex H H1 → D.nx ((σ.set i (some v)).set j (some w)) H1) : tPar i j tar D σ H := h H (Evl.Ex.refl H) _ fun H1 e => ⟨v, w, rfl, k H1 e⟩
theorem s_par3 {i j l : Nat} {u v w : V} (h : Evl.EvA tar σ H [u, v, w]) (k : ∀ H1, Evl.Ex H H1 → D.nx (((σ.set i (some u)).set j (some v)).set l (some w)) H1) : tPar3 i j l tar D σ H := h H (Evl.Ex.refl H) _ fun H1 e => ⟨u, v, w, rfl, k H1 e⟩
theorem forR2 {j : Nat} {lo n : Int} (h : Evl.EvA tar σ H [.int lo, .int n]) (hn : -100000 ≤ lo ∧ lo ≤ 100000 ∧ -100000 ≤ n ∧ n ≤ 100000) (Pv : Nat → L2.St → Hp → Prop) (h0 : ∀ H1, Evl.Ex H H1 → Pv 0 σ H1)
    (hs : ∀ (i : Nat) σ' H', lo + (i : Int) < n → Pv i σ' H' → a { D with nx := Pv (i + 1), ct := Pv (i + 1), bk := D.nx } (σ'.set j (some (.int (lo + (i : Int))))) H') (hd : ∀ σ' H', Pv (n - lo).toNat σ' H' → D.nx σ' H') : tFor (iRng2 tar) (gName j) a D σ H :=
  h H (Evl.Ex.refl H) _ fun H1 e => ⟨lo, n, rfl, ⟨by omega, by omega, by omega, by omega⟩, for_range (lo := lo) (n := (n - lo).toNat) Pv (h0 H1 e) (fun i σ' H' hi p => hs i σ' H' (by omega) p) hd⟩
/-- over a new tuple -/
theorem forNT {xs : List V} {tl : TE} (h : Evl.EvU tl σ H xs) (Pv : Addr → Nat → L2.St → Hp → Prop) (h0 : ∀ p H1, H p = none → Evl.Ex H H1 → H1 p = some (.tup xs) → Pv p 0 σ H1) (hl : ∀ p i σ' H', i ≤ xs.length → Pv p i σ' H' → SqT K H' p xs)
    (hs : ∀ p i x σ' H', xs[i]? = some x → Pv p i σ' H' → g x σ' H' fun σ2 H2 => a { D with nx := Pv p (i + 1), ct := Pv p (i + 1), bk := D.nx } σ2 H2) (hd : ∀ p σ' H', Pv p xs.length σ' H' → D.nx σ' H') : tFor (iTup K tl) g a D σ H :=
  h H (Evl.Ex.refl H) _ fun p H1 hp e h1 => ⟨p, rfl, ⟨xs, Evl.st_of h1⟩, for_tup (Pv p) (h0 p H1 hp e h1) (hl p) (hs p) (hd p)⟩
/-- a test, then what follows -/
theorem s_ifD {k : Bool} (h : Evl.EvT t σ H k) (h1 : k = true → ∀ H1, Evl.Ex H H1 → a D σ H1) (h2 : k = false → ∀ H1, Evl.Ex H H1 → b D σ H1) : tIfS t a b D σ H := Evl.s_if h h1 h2
end
/-! ### rules over the written part, by its name -/
section
variable {X : Cx} (K : PySem.W.Frag)
theorem ixl (h : X.K = K) : IxR X (rIxL K) := h ▸ ix_list
theorem ixt (h : X.K = K) : IxR X (rIxT K) := h ▸ ix_tup
theorem ins (h : X.K = K) : OpR X (compareOp .In) (rIn K false) := h ▸ op_in_seq
theorem eqD (hu : X.A.units + 64 < cLine) (h : X.K = K) : OpR X (compareOp .Eq) (rEqD K) := h ▸ op_eqD hu
theorem neD (hu : X.A.units + 64 < cLine) (h : X.K = K) : OpR X (compareOp .NotEq) (rNeD K) := h ▸ op_neD hu
theorem catT (h : X.K = K) : OpR X (binaryOp .Add) (rCatT K) := h ▸ op_catT
theorem lenS (h : X.K = K) : CallR X (.builtin "len") (Evl.rLenS K) := h ▸ call_len_seq
theorem listS (h : X.K = K) : CallR X (.type "list") (Evl.rListS K) := h ▸ call_list_of
def rTupS (K : PySem.W.Frag) : List V → Hp → VK → Prop := fun xs H Q => ∃ p ys, xs = [.ref p] ∧ ((SqL K H p ys ∧ ∀ l, H l = none → Q (.ref l) (upd H l (.tup ys))) ∨ (SqT K H p ys ∧ Q (.ref p) H))
theorem tupS (h : X.K = K) : CallR X (.type "tuple") (rTupS K) := h ▸ call_tuple_of
theorem sumS (hc : X.calm = true) (h : X.K = K) : CallR X (.builtin "sum") (rSum K) := h ▸ cr_sum hc
theorem isiS (h : X.K = K) : CallR X (.builtin "isinstance") (rIsi K) := h ▸ call_isi
theorem isiTS (h : X.K = K) : CallR X (.builtin "isinstance") (rIsiT K) := h ▸ call_isiT
theorem slT (h : X.K = K) : SlR X (rSlT K) := h ▸ sl_tup
theorem pgT {es : List Expr} {k : Nat} {t : TGs} {n : Nat} {pos : Pos} (hK : X.K = K) (hc : X.calm = true) (h : PGs X es t) (hn : (assignEach es X.env).length = n := by rfl) (hst : (assignEach es X.env).findIdx? (·.1) = none := by rfl) : PG X (.Tuple es k pos) (gTup K n t) := by
  subst hK
  exact pg_tup hc h hn hst
theorem piEn {e : Expr} {ta : TA} {p pos tpos : Pos} {elts : List Expr} {kk : Nat} (hK : X.K = K) (hg : Gl X "enumerate") (hm : X.mg "enumerate" = none) (ha : PA X [e] ta) (hs : starEach [e] X.env = [(false, eval e X.env)] := by rfl) : PI X (.Tuple elts kk tpos) (.Call (.Name "enumerate" p) [e] [] pos) (iEnum K ta) := by
  subst hK
  exact pi_enum hg hm ha hs
theorem piZp {e e2 : Expr} {ta : TA} {p pos tpos : Pos} {elts : List Expr} {kk : Nat} (hK : X.K = K) (hg : Gl X "zip") (hm : X.mg "zip" = none) (ha : PA X [e, e2] ta) (hs : starEach [e, e2] X.env = (false, eval e X.env) :: starEach [e2] X.env := by rfl) (hpl : (backTo pos (starEach [e2] X.env)).any (·.1) = false := by rfl) : PI X (.Tuple elts kk tpos) (.Call (.Name "zip" p) [e, e2] [] pos) (iZip K ta) := by
  subst hK
  exact pi_zip hg hm ha hs hpl
theorem piL {tg e : Expr} {te : TE} (h : X.K = K) (he : PE X e te) : PI X tg e (iList K te) := h ▸ pi_list he
theorem piT {tg e : Expr} {te : TE} (h : X.K = K) (he : PE X e te) : PI X tg e (iTup K te) := h ▸ pi_tup he
end
/-! ### items of lists of ints; comprehensions over ranges -/
section
variable {K : PySem.W.Frag} {σ : L2.St} {H : Hp} {Q : VK} {te : TE} {t : TT}
theorem ixI {ns : List Int} {a : Addr} {i : Int} (h : SqL K H a (ns.map V.int)) (h0 : 0 ≤ i) (h1 : i < ns.length) (q : Q (.int (ns.getD i.toNat 0)) H) : rIxL K (.ref a) (.int i) H Q := by
  refine ⟨a, _, i, _, rfl, rfl, h, at_of (j := i.toNat) (by omega) ?_, q⟩
  rw [List.getElem?_map, List.getElem?_eq_getElem (by omega), List.getD_eq_getElem?_getD, List.getElem?_eq_getElem (by omega)]
  rfl
theorem setI {g : List Int} {p : Addr} {i v : Int} {R : Hp → Prop} (h : H p = some (.lst (g.map V.int))) (h0 : 0 ≤ i) (h1 : i < g.length) (q : R (upd H p (.lst ((g.set i.toNat v).map V.int)))) : rSetL (.ref p) (.int i) (.int v) H R := by
  refine ⟨p, _, i, i.toNat, rfl, rfl, h, ?_, by rw [← List.map_set]; exact q⟩
  unfold ixN
  rw [if_pos h0, List.length_map, if_pos h1]
theorem given_all (n : Nat) (v : Nat → V) : Evl.given n (fun _ => true) v = (List.range n).map v := by
  unfold Evl.given
  rw [List.filter_eq_self.mpr (fun _ _ => rfl)]
theorem lcR1 {ta : TA} {j : Nat} {vs : List Nat} {n : Int} (v : Nat → V) (h : Evl.EvA ta σ H [.int n]) (hn : 0 ≤ n ∧ n ≤ 40000) (hw : ∀ x, wipe ((wipe σ vs).set j (some x)) vs = wipe σ vs)
    (he : ∀ (i : Nat) H1, Evl.Ex H H1 → (i : Int) < n → Evl.Ev te ((wipe σ vs).set j (some (.int (i : Int)))) H1 (v i)) : Evl.EvL (tLc (iRng1 ta) (gName j) tYes te vs) σ H ((List.range n.toNat).map v) := by
  rw [← given_all]
  exact Evl.el_lcR1 (fun _ => true) v h hn hw (fun i H1 e hi H2 e2 Q2 q2 => q2 _ (Evl.Ex.refl _)) fun i H1 e hi _ => he i H1 e hi
end
/-! ### comprehensions over pairs; new lists -/
section
variable {K : PySem.W.Frag} {σ : L2.St} {H : Hp} {Q : VK} {te : TE} {t : TT} {ta : TA}
theorem cw_upd {H H' : Hp} {f : Nat → Bool} {v : Nat → V} {Dl T : Addr} {i : Nat} {o : HO} (p : Evl.Cw H f v Dl i H') (hT : H' T = none) : Evl.Cw H f v Dl i (upd H' T o) :=
  ⟨p.1, p.2.1.trans (Evl.Ex.new hT), by rw [upd_ne (ne_of_none p.2.2 hT)]; exact p.2.2⟩
theorem lcZip {i j : Nat} {vs : List Nat} {a b : Addr} {xs ys : List V} (v : Nat → V) (h : Evl.EvA ta σ H [.ref a, .ref b]) (hx : SqL K H a xs) (hy : SqL K H b ys) (hl : ys.length = xs.length) (hz : xs.length ≤ 40000)
    (hw : ∀ x y, wipe (((wipe σ vs).set i (some x)).set j (some y)) vs = wipe σ vs)
    (he : ∀ (k : Nat) (x y : V) H1, Evl.Ex H H1 → xs[k]? = some x → ys[k]? = some y → Evl.Ev te (((wipe σ vs).set i (some x)).set j (some y)) H1 (v k)) :
    Evl.EvL (tLc (iZip K ta) (gTup K 2 (gCons (gName i) (gCons (gName j) gNil))) tYes te vs) σ H ((List.range xs.length).map v) := by
  rw [← given_all]
  intro H0 e Q q
  refine h H0 e _ fun H1 e1 => ⟨a, b, xs, ys, rfl, Evl.ex_l (e.trans e1) hx, Evl.ex_l (e.trans e1) hy, fun Dl hD => lc_it (walk_zip (xs := xs) (ys := ys) (n := xs.length) (by omega)) (Evl.Cw H1 (fun _ => true) v Dl) ⟨hD, Evl.Ex.new hD, upd_same⟩
    (fun k H' _ p => ⟨Evl.ex_l ((e.trans e1).trans p.2.1) hx, Evl.ex_l ((e.trans e1).trans p.2.1) hy⟩) (fun k x H' H'' hk p hY => ?_) (fun H' p => q Dl H' (Evl.fresh_back e1 p.1) (e1.trans p.2.1) p.2.2)⟩
  obtain ⟨T, x1, y1, rfl, nT, rfl, f1, f2⟩ := hY
  refine ⟨T, [x1, y1], rfl, .inl (.inl upd_same), rfl, x1, [y1], rfl, y1, [], rfl, rfl, hw _ _, ?_⟩
  exact Evl.cw_turn (cw_upd p nT) (by omega) (fun H2 e2 Q2 q2 => q2 _ (Evl.Ex.refl _)) fun _ => he k x1 y1 H1 (e.trans e1) f1 f2
theorem lcEnum {i j : Nat} {vs : List Nat} {a : Addr} {xs : List V} (v : Nat → V) (h : Evl.EvA ta σ H [.ref a]) (hx : SqL K H a xs) (hz : xs.length ≤ 40000)
    (hw : ∀ x y, wipe (((wipe σ vs).set i (some x)).set j (some y)) vs = wipe σ vs)
    (he : ∀ (k : Nat) (x : V) H1, Evl.Ex H H1 → xs[k]? = some x → Evl.Ev te (((wipe σ vs).set i (some (.int (k : Int)))).set j (some x)) H1 (v k)) :
    Evl.EvL (tLc (iEnum K ta) (gTup K 2 (gCons (gName i) (gCons (gName j) gNil))) tYes te vs) σ H ((List.range xs.length).map v) := by
  rw [← given_all]
  intro H0 e Q q
  refine h H0 e _ fun H1 e1 => ⟨a, xs, rfl, Evl.ex_l (e.trans e1) hx, fun Dl hD => lc_it (walk_enum (xs := xs)) (Evl.Cw H1 (fun _ => true) v Dl) ⟨hD, Evl.Ex.new hD, upd_same⟩
    (fun k H' _ p => Evl.ex_l ((e.trans e1).trans p.2.1) hx) (fun k x H' H'' hk p hY => ?_) (fun H' p => q Dl H' (Evl.fresh_back e1 p.1) (e1.trans p.2.1) p.2.2)⟩
  obtain ⟨T, x1, y1, rfl, nT, rfl, f1, f2⟩ := hY
  obtain rfl : V.int (k : Int) = x1 := Option.some.inj f1
  refine ⟨T, [.int (k : Int), y1], rfl, .inl (.inl upd_same), rfl, _, [y1], rfl, y1, [], rfl, rfl, hw _ _, ?_⟩
  exact Evl.cw_turn (cw_upd p nT) (by omega) (fun H2 e2 Q2 q2 => q2 _ (Evl.Ex.refl _)) fun _ => he k y1 H1 (e.trans e1) f2
theorem rep0 {l : Addr} {x : V} {k : Int} (hl : H l = some (.lst [x])) (h0 : -(2 ^ 63) ≤ k) (h1 : k ≤ 100000) (q : ∀ p, H p = none → Q (.ref p) (upd H p (.lst (List.replicate k.toNat x)))) : rRep (.ref l) (.int k) H Q := by
  refine ⟨l, k, [x], rfl, rfl, hl, h0, by omega, ?_, fun p hp => ?_⟩
  · show 1 * k.toNat ≤ sizeLine
    have : sizeLine = 16777216 := by decide
    omega
  · have e : (List.replicate k.toNat [x]).flatten = List.replicate k.toNat x := by
      generalize k.toNat = n
      induction n with
      | zero => rfl
      | succ n ih => rw [List.replicate_succ, List.flatten_cons, ih, List.replicate_succ]; rfl
    rw [e]
    exact q p hp
end
end FB

/-! # K2 -/
namespace FB
open PySem PySem.Spec PyProof.Rows L2
local macro_rules | `(tactic| walk_at "sx") => `(tactic| simp only [ap_Var, ap_C, ap_Op, ap_Un, ap_I, ap_I0, ap_U, ap_Eq, ap_Ne, ap_If, ap_Test, ap_B, ap_And, ap_Or, ap_Not, ap_AndV, ap_OrV, ap_NotV, ap_Chain, ap_CB, ap_Nil, ap_Cons, ap_Call, ap_Asg, ap_gName, ap_Seq, ap_Next, ap_Cont, ap_Ret, ap_IfS, ap_Par, ap_Par3, ap_Aug, ap_ip, ap_Drop, ap_gTup, ap_gCons, ap_gNil, ap_gSub, ap_Lst, ap_Tup, ap_Yes,
  List.getElem?_cons_zero, List.getElem?_cons_succ, List.set_cons_zero, List.set_cons_succ, Option.some.injEq, V.int.injEq, V.bl.injEq, V.ref.injEq, List.cons.injEq, and_true, true_and, exists_eq_left, exists_eq_left', exists_eq_right, exists_eq_right', exists_and_left, exists_and_right, List.append_nil, if_true, if_false, Bool.false_eq_true, Bool.not_true, Bool.not_false])
local macro_rules | `(tactic| walk_at "ev") => `(tactic| (intro H1 e1 Q1 q1; walk_at "sx"; exact q1 _ (Evl.Ex.refl _)))
section
variable {P : Program} {w : World} {K : PySem.W.Frag} {mg : Str → Option Value} {base : Heap}
/-! ### loops over enumerate -/
section
variable {σ : L2.St} {H : Hp} {D : Ends} {b : TS} {ta : TA}
theorem forEnum {i j : Nat} {a : Addr} {xs : List V} (h : Evl.EvA ta σ H [.ref a]) (hx : SqL K H a xs) (Pv : Nat → L2.St → Hp → Prop) (h0 : ∀ H1, Evl.Ex H H1 → Pv 0 σ H1) (hl : ∀ k σ' H', k ≤ xs.length → Pv k σ' H' → SqL K H' a xs)
    (hs : ∀ k x σ' H' T, xs[k]? = some x → Pv k σ' H' → H' T = none → b { D with nx := Pv (k + 1), ct := Pv (k + 1), bk := D.nx } ((σ'.set i (some (.int (k : Int)))).set j (some x)) (upd H' T (.tup [.int (k : Int), x])))
    (hd : ∀ σ' H', Pv xs.length σ' H' → D.nx σ' H') : tFor (iEnum K ta) (gTup K 2 (gCons (gName i) (gCons (gName j) gNil))) b D σ H :=
  h H (Evl.Ex.refl H) _ fun H1 e => ⟨a, xs, rfl, Evl.ex_l e hx, for_it (walk_enum (xs := xs)) Pv (h0 H1 e) hl (fun k x σ' H' H'' hk p hY => by
    obtain ⟨T, x1, y1, rfl, nT, rfl, f1, f2⟩ := hY
    obtain rfl : V.int (k : Int) = x1 := Option.some.inj f1
    exact ⟨T, [.int (k : Int), y1], rfl, .inl (.inl upd_same), rfl, _, [y1], rfl, y1, [], rfl, rfl, hs k y1 σ' H' T f2 p nT⟩) hd⟩
end

end
end FB

/-! # K3 -/
namespace FB
open PySem PySem.Spec PyProof.Rows L2
local macro_rules | `(tactic| walk_at "sx") => `(tactic| simp only [ap_Var, ap_C, ap_Op, ap_Un, ap_I, ap_I0, ap_U, ap_Eq, ap_Ne, ap_If, ap_Test, ap_B, ap_And, ap_Or, ap_Not, ap_AndV, ap_OrV, ap_NotV, ap_Chain, ap_CB, ap_Nil, ap_Cons, ap_Call, ap_Asg, ap_gName, ap_Seq, ap_Next, ap_Cont, ap_Ret, ap_IfS, ap_Par, ap_Par3, ap_Aug, ap_ip, ap_Drop, ap_gTup, ap_gCons, ap_gNil, ap_gSub, ap_Lst, ap_Tup, ap_Yes,
  List.getElem?_cons_zero, List.getElem?_cons_succ, List.set_cons_zero, List.set_cons_succ, Option.some.injEq, V.int.injEq, V.bl.injEq, V.ref.injEq, List.cons.injEq, and_true, true_and, exists_eq_left, exists_eq_left', exists_eq_right, exists_eq_right', exists_and_left, exists_and_right, List.append_nil, if_true, if_false, Bool.false_eq_true, Bool.not_true, Bool.not_false])
local macro_rules | `(tactic| walk_at "ev") => `(tactic| (intro H1 e1 Q1 q1; walk_at "sx"; exact q1 _ (Evl.Ex.refl _)))
section
variable {P : Program} {w : World} {K : PySem.W.Frag} {mg : Str → Option Value} {base : Heap}
/-! ### for pair in d.keys(), a dict with tuple keys -/
def iKeysMT (td : TE) : TI := fun σ H R => td σ H fun x H1 => ∃ d o kvs, x = .ref d ∧ H1 d = some (.frz o (.dT kvs)) ∧ R (Itkt d o kvs) H1
theorem pi_keysMT {X : Cx} {tg e : Expr} {td : TE} {apos cpos : Pos} (he : PE X e td) (hbase : attributeBase e "keys" X.env (eval e X.env) = eval e X.env := by rfl) (hline : (apos.endLine == cpos.line) = true := by rfl) : PI X tg (.Call (.Attribute e "keys" apos) [] [] cpos) (iKeysMT td) := by
  refine ⟨fun pins s σ H R I h => ?_⟩
  refine wpAny_Call_method (T := "dict") (id := "dict.keys") hbase rfl hline F.plainAttrs_dict F.slot_dict_keys F.type_dict_keys (thn (he.run pins s σ H _ I h) fun u s1 ⟨x, H1, I1, rx, d, o, kvs, ex, hd, q⟩ => ?_)
  subst ex
  obtain rfl : u = Value.ref d := rx
  obtain ⟨hs, hgd, hx, es, ep, hdt, hsz, ent⟩ := I1.frzT hd
  have hraw : s1.heap.DictRaw d es ep := ⟨o, hgd, hx, hdt⟩
  refine ⟨hraw.typeIs, ?_, ?_⟩
  · exact fun a e => ⟨o, by cases e; exact hgd, hx.2.1⟩
  have I2 : Inv X pins σ H1 { s1 with heap := s1.heap.push { cls := .type "dict_keys", data := .fields #[.ref d] } } := I1.kept (t' := s1.toks) fun b ob q => Heap.get?_push_of_some _ q
  have fin : wpAny (model X.prog X.w) X.A (pyIter (.ref s1.heap.objs.size)) (PIE X pins σ tg R) X.xe { s1 with heap := s1.heap.push { cls := .type "dict_keys", data := .fields #[.ref d] } } := by
    refine wpAny_pyIter_keys_raw (d := d) (es := es) (ep := ep) ⟨_, Heap.get?_push_size _ rfl, rfl, rfl⟩ (hraw.push _) (pi_one (tk := s1.toks) I2 _ (turn_keysT _ hdt) ⟨_, Heap.get?_push_size _ rfl, rfl, ?_⟩ q)
    rw [hsz] <;> rfl
  show wpAny _ _ (callWith cpos (.builtin "dict.keys") [.ref d] [] []) _ X.xe s1
  exact method_meetsIn F.slot_dict_keys F.entry_dict_keys rfl (PySem.evalArgs_none ⟨rfl, hraw.typeIs, F.args_dict_keys_1 _, _, meets_dict_keys_raw d hs, ⟨es, ep, hraw⟩, fin⟩)

end
end FB

/-! # K4 -/
namespace FB
open PySem PySem.Spec PyProof.Rows L2
local macro_rules | `(tactic| walk_at "sx") => `(tactic| simp only [ap_Var, ap_C, ap_Op, ap_Un, ap_I, ap_I0, ap_U, ap_Eq, ap_Ne, ap_If, ap_Test, ap_B, ap_And, ap_Or, ap_Not, ap_AndV, ap_OrV, ap_NotV, ap_Chain, ap_CB, ap_Nil, ap_Cons, ap_Call, ap_Asg, ap_gName, ap_Seq, ap_Next, ap_Cont, ap_Ret, ap_IfS, ap_Par, ap_Par3, ap_Aug, ap_ip, ap_Drop, ap_gTup, ap_gCons, ap_gNil, ap_gSub, ap_Lst, ap_Tup, ap_Yes,
  List.getElem?_cons_zero, List.getElem?_cons_succ, List.set_cons_zero, List.set_cons_succ, Option.some.injEq, V.int.injEq, V.bl.injEq, V.ref.injEq, List.cons.injEq, and_true, true_and, exists_eq_left, exists_eq_left', exists_eq_right, exists_eq_right', exists_and_left, exists_and_right, List.append_nil, if_true, if_false, Bool.false_eq_true, Bool.not_true, Bool.not_false])
local macro_rules | `(tactic| walk_at "ev") => `(tactic| (intro H1 e1 Q1 q1; walk_at "sx"; exact q1 _ (Evl.Ex.refl _)))
section
variable {P : Program} {w : World} {K : PySem.W.Frag} {mg : Str → Option Value} {base : Heap}
/-! ### sorted(d.keys()), a dict whose keys are pairs of ints -/
def keysO (p d : Addr) : HO := .ext fun h => PySem.W.KdlKeysView h p d
theorem keysO_ok {P : Program} {w : World} {H : Hp} {h : Heap} {p d : Addr} (e : h.get? p = some { cls := .type "dict_keys", data := .fields #[.ref d] }) : ObjOk P w H h p (keysO p d) :=
  ⟨⟨_, e, rfl, rfl⟩, ⟨_, e⟩, fun h1 h2 x k => let ⟨o, ho, r⟩ := x; ⟨o, k o ho, r⟩⟩
def rKeysT : V → List V → Hp → VK → Prop := fun x xs H Q => ∃ (a : Addr) (kvs : List (List L2.Key × V)), x = .ref a ∧ xs = [] ∧ H a = some (.dT kvs) ∧ ∀ p, H p = none → Q (.ref p) (upd H p (keysO p a))
theorem mt_keysT {X : Cx} : MtR X "dict.keys" rKeysT := by
  intro pins s σ H x xs v us Q I rx rxs h
  obtain ⟨a, kvs, rfl, rfl, ha, q⟩ := h
  cases rx
  cases rxs
  obtain ⟨z, hd, xs', rel, o, es, ep, ho, hx, hdat, _⟩ := dt_of I.hok ha
  have hraw : s.heap.DictRaw a es ep := ⟨o, ho, hx, hdat⟩
  refine call_meetsIn PySem.F.slot_dict_keys hraw.typeIs PySem.F.entry_dict_keys (PySem.F.args_dict_keys_1 _) (meets_dict_keys_raw a hd) ⟨⟨es, ep, hraw⟩, ?_⟩
  have hf : H s.heap.objs.size = none := I.hok.fresh (Nat.le_refl _)
  exact ⟨.ref s.heap.objs.size, upd H s.heap.objs.size (keysO s.heap.objs.size a), I.laid (t' := s.toks) (fun b u e => Heap.get?_push_of_some _ e) (Nat.le_refl _) (keysO_ok (Heap.get?_push_size _ rfl)), rfl, q _ hf⟩
/-- the ints of a pair that is tracked -/
def pairH (H : Hp) (v : Value) : Int × Int := match v with
  | .ref b => match H b with
    | some (.tup [.int i, .int j]) => (i, j)
    | _ => (0, 0)
  | _ => (0, 0)
def rSortKT : List V → Hp → VK → Prop := fun vs H Q => ∃ (p a : Addr) (ks : List ((Int × Int) × V)), vs = [.ref p] ∧ H p = some (keysO p a) ∧ H a = some (.dT (ks.map fun kv => ([Sum.inl kv.1.1, Sum.inl kv.1.2], kv.2))) ∧
  ∀ (l : Addr) (ys : List (Addr × Int × Int)), (∀ y ∈ ys, H y.1 = some (.tup [.int y.2.1, .int y.2.2])) → (ys.map (·.2)).Perm (ks.map (·.1)) → (ys.map (·.2)).Pairwise (fun a b => SrtO.lexB b a = false) →
    H l = none → Q (.ref l) (upd H l (.lst (ys.map fun y => V.ref y.1)))
theorem cr_sortedKT {X : Cx} (hc : X.calm = true) : CallR X (.builtin "sorted") rSortKT := by
  intro pins s σ H xs us Q I r q
  obtain ⟨p, a, ks, rfl, hp, ha, q⟩ := q
  obtain rfl := Vals.ref1 r
  have view : PySem.W.KdlKeysView s.heap p a := (show ObjOk X.prog X.w H s.heap p (keysO p a) from I.hok p _ hp).1
  obtain ⟨z, hd, xs', rel, o, es, ep, ho, hx, hdat, hes, his, hn⟩ := dt_of I.hok ha
  have l1 : (ks.map fun kv => (([Sum.inl kv.1.1, Sum.inl kv.1.2] : List L2.Key), kv.2)).length = xs'.length := Paired.length rel
  rw [List.length_map] at l1
  have l2 : es.size = xs'.length := size_of_entries hes
  rw [List.length_map] at z
  have hh : X.A.handled = none := I.ok.hd hc
  have hraw : s.heap.DictRaw a es ep := ⟨o, ho, hx, hdat⟩
  refine Calls.call_function_entry PyProof.Rows.kind_sorted PyProof.Rows.plain_sorted PyProof.Rows.entry_sorted (PyProof.Rows.args_sorted1 _) ?_
  unfold Builtin.«sorted»
  refine wpAny_bind (m := checkCount "sorted" 1 1 _) (wpAny_pure ?_)
  refine wpAny_bind (PySem.W.kdu_collect (A := X.A.in1) (KdlSrc.rawKeys (r := p) (d := a) (es := es) (ep := ep)) hh ⟨view, hraw⟩ (by omega) fun h' tk acc hk hacc => ?_)
  have hal : acc.toList.length = ks.length := by rw [Array.length_toList, hacc.1]; omega
  -- the i-th of what was collected
  have at_ : ∀ (j : Nat) (v : Value), acc.toList[j]? = some v → ∃ (kv : (Int × Int) × V) (b : Addr), ks[j]? = some kv ∧ v = .ref b ∧ H b = some (.tup [.int kv.1.1, .int kv.1.2]) := by
    intro j v e
    obtain ⟨hj, ev⟩ := hacc.2 j v (by rw [← Array.getElem?_toList]; exact e)
    have hj2 : j < ks.length := by omega
    have hx2 : xs'[j]? = some xs'[j] := List.getElem?_eq_getElem (by omega)
    have he : es[j]? = some es[j] := by simp [hj]
    rw [entry_at hes j, hx2] at he
    have een : entryOfKey (tupleKind (mixKind X.prog X.w)) xs'[j] = es[j] := Option.some.inj he
    obtain ⟨e0, he0, r1, r2, r3⟩ := L2.DX.pget rel hx2
    rw [List.getElem?_map, List.getElem?_eq_getElem hj2] at he0
    obtain rfl := Option.some.inj he0
    refine ⟨ks[j], xs'[j].2.1, List.getElem?_eq_getElem hj2, ?_, r2⟩
    rw [ev, ← een]
    all_goals rfl
  have at2 : ∀ v ∈ acc.toList, ∃ b i j, v = .ref b ∧ H b = some (.tup [.int i, .int j]) := fun v hv => by
    obtain ⟨j, hj⟩ := List.mem_iff_getElem?.mp hv
    obtain ⟨kv, b, _, e, h⟩ := at_ j v hj
    exact ⟨b, _, _, e, h⟩
  have I1 : Inv X pins σ H { s with heap := h', toks := tk } := I.kept hk
  refine wpAny_bind (wpAny_newList ?_ (by rw [hal]; exact z))
  have hoL : (h'.push (seqObj "list" acc.toList.toArray 0)).get? h'.objs.size = some (seqObj "list" acc.toList.toArray 0) := Heap.get?_push_size _ rfl
  show wpAny _ _ _ _ _ { s with heap := h'.push (seqObj "list" acc.toList.toArray 0), toks := tk }
  have isP : ∀ v ∈ acc.toList, Srt.IsPair (h'.push (seqObj "list" acc.toList.toArray 0)) v (pairH H v).1 (pairH H v).2 := fun v hv => by
    obtain ⟨b, i, j, rfl, hb⟩ := at2 v hv
    obtain ⟨_, its2, r2, ob, ho, hc, n, hd⟩ := I1.hok _ _ hb
    obtain ⟨u1, u2, rfl, ri, rj⟩ := vals2 r2
    obtain ⟨t1, rfl⟩ := ri
    obtain ⟨t2, rfl⟩ := rj
    refine ⟨b, ob, t1, t2, n, rfl, Heap.get?_push_of_some _ ho, hc, ?_⟩
    show ob.data = .seq #[.int (match H b with | some (.tup [.int i, .int j]) => (i, j) | _ => (0, 0)).1 t1, .int (match H b with | some (.tup [.int i, .int j]) => (i, j) | _ => (0, 0)).2 t2] n
    rw [hb]
    exact hd
  refine wpAny_bind (wpAny_holding (wpAny_call_entry PyProof.Rows.slot_list_sort ⟨_, hoL, rfl⟩ PyProof.Rows.entry_list_sort
    (SrtO.list_sort_ord (s := { s with heap := h'.push (seqObj "list" acc.toList.toArray 0), toks := tk }) (SrtO.swo_lex (pairH H)) hoL (by rw [hal]; exact z)
      (fun h2 => SrtO.pairs_sortableO (s := { s with heap := h'.push (seqObj "list" acc.toList.toArray 0), toks := tk }) (by omega) isP fun o e c => ?_) fun out hs hb => ⟨_, rfl, ?_⟩) (PyProof.Rows.args_list_sort _)))
  · have e' : some o = some (seqObj "list" acc.toList.toArray 0) := e.symm.trans hoL
    cases e'
    exact absurd (Value.type.inj c) (by decide)
  · obtain ⟨e', he'⟩ := PyProof.Rows.sortedHeap_at (vs := acc.toList) (out := out.toArray) hoL
    have ho2 : ∀ v ∈ out, ∃ b i j, v = .ref b ∧ H b = some (.tup [.int i, .int j]) := fun v hv => at2 v (hb.perm.mem_iff.mp hv)
    let adr : Value → Addr := fun v => match v with | .ref b => b | _ => 0
    let ys : List (Addr × Int × Int) := out.map fun v => (adr v, pairH H v)
    have hpk : acc.toList.map (pairH H) = ks.map (·.1) := by
      apply List.ext_getElem?
      intro j
      rw [List.getElem?_map, List.getElem?_map]
      cases hj : acc.toList[j]? with
      | none =>
        have : acc.toList.length ≤ j := List.getElem?_eq_none_iff.mp hj
        rw [List.getElem?_eq_none (by omega)]
        rfl
      | some v =>
        obtain ⟨kv, b, e1, rfl, e3⟩ := at_ j v hj
        rw [e1]
        show some (match H b with | some (.tup [.int i, .int j]) => (i, j) | _ => (0, 0)) = some kv.1
        rw [e3]
    have hys : ys.map (·.2) = out.map (pairH H) := by
      show (out.map fun v => (adr v, pairH H v)).map (·.2) = _
      rw [List.map_map]
      rfl
    have hyl : (ys.map fun y => V.ref y.1).length ≤ sizeLine := by
      rw [List.length_map]
      show (out.map _).length ≤ _
      rw [List.length_map, hb.len, hal]
      exact z
    have hyv : Vals (ys.map fun y => V.ref y.1) out := by
      show Vals ((out.map fun v => (adr v, pairH H v)).map fun y => V.ref y.1) out
      rw [List.map_map]
      have all : ∀ l : List Value, (∀ v ∈ l, ∃ b i j, v = Value.ref b ∧ H b = some (.tup [.int i, .int j])) → Vals (l.map ((fun y : Addr × Int × Int => V.ref y.1) ∘ fun v => (adr v, pairH H v))) l := by
        intro l
        induction l with
        | nil => exact fun _ => .nil
        | cons v r ih =>
          intro h
          obtain ⟨b, _, _, rfl, _⟩ := h _ (List.mem_cons_self ..)
          exact .cons rfl (ih fun u hu => h u (List.mem_cons_of_mem _ hu))
      exact all out ho2
    refine wpAny_pure ⟨_, rfl, .ref h'.objs.size, upd H h'.objs.size (.lst (ys.map fun y => V.ref y.1)), I1.laid (t' := tk) (fun b u e => ?_) (Nat.le_refl _)
      (show ObjOk X.prog X.w _ _ _ (.lst (ys.map fun y => V.ref y.1)) from ⟨hyl, out, e', hyv, he'⟩), rfl, q _ ys (fun y hy => ?_) ?_ ?_ (I1.hok.fresh (Nat.le_refl _))⟩
    · have hb : b < h'.objs.size := Heap.lt_size e
      rw [PyProof.Rows.sortedHeap_old (Nat.ne_of_lt hb) (by rw [size_push']; exact Nat.lt_succ_of_lt hb)]
      exact Heap.get?_push_of_some _ e
    · obtain ⟨v, hv, rfl⟩ := List.mem_map.mp hy
      obtain ⟨b, i, j, rfl, hb⟩ := ho2 v hv
      show H b = some (.tup [.int (match H b with | some (.tup [.int i, .int j]) => (i, j) | _ => (0, 0)).1, .int (match H b with | some (.tup [.int i, .int j]) => (i, j) | _ => (0, 0)).2])
      rw [hb]
    · rw [hys, ← hpk]
      exact hb.perm.map _
    · rw [hys]
      exact List.pairwise_map.mpr hs

end
end FB

/-! # K5 -/
namespace FB
open PySem PySem.Spec PyProof.Rows L2
local macro_rules | `(tactic| walk_at "sx") => `(tactic| simp only [ap_Var, ap_C, ap_Op, ap_Un, ap_I, ap_I0, ap_U, ap_Eq, ap_Ne, ap_If, ap_Test, ap_B, ap_And, ap_Or, ap_Not, ap_AndV, ap_OrV, ap_NotV, ap_Chain, ap_CB, ap_Nil, ap_Cons, ap_Call, ap_Asg, ap_gName, ap_Seq, ap_Next, ap_Cont, ap_Ret, ap_IfS, ap_Par, ap_Par3, ap_Aug, ap_ip, ap_Drop, ap_gTup, ap_gCons, ap_gNil, ap_gSub, ap_Lst, ap_Tup, ap_Yes,
  List.getElem?_cons_zero, List.getElem?_cons_succ, List.set_cons_zero, List.set_cons_succ, Option.some.injEq, V.int.injEq, V.bl.injEq, V.ref.injEq, List.cons.injEq, and_true, true_and, exists_eq_left, exists_eq_left', exists_eq_right, exists_eq_right', exists_and_left, exists_and_right, List.append_nil, if_true, if_false, Bool.false_eq_true, Bool.not_true, Bool.not_false])
local macro_rules | `(tactic| walk_at "ev") => `(tactic| (intro H1 e1 Q1 q1; walk_at "sx"; exact q1 _ (Evl.Ex.refl _)))
section
variable {P : Program} {w : World} {K : PySem.W.Frag} {mg : Str → Option Value} {base : Heap}
/-! ### dict([(t, v), ..]), t tuples, no two alike -/
abbrev DE := Addr × Addr × List L2.Key × V
def rDictPT (K : PySem.W.Frag) : List V → Hp → VK → Prop := fun vs H Q => ∃ (a : Addr) (es : List DE), vs = [.ref a] ∧ SqL K H a (es.map fun e => V.ref e.1) ∧ (∀ e ∈ es, H e.1 = some (.tup [.ref e.2.1, e.2.2.2]) ∧ H e.2.1 = some (.tup (e.2.2.1.map kV))) ∧ (es.map (·.2.2.1)).Nodup ∧
  ∀ p, H p = none → Q (.ref p) (upd H p (.dT (es.map fun e => (e.2.2.1, e.2.2.2))))
theorem de_vals {P : Program} {w : World} {H : Hp} {h : Heap} (ok : HOk P w H h) : ∀ es : List DE, (∀ e ∈ es, H e.1 = some (.tup [.ref e.2.1, e.2.2.2]) ∧ H e.2.1 = some (.tup (e.2.2.1.map kV))) →
    ∃ xs : List (List L2.Key × Addr × Value), KT H (es.map fun e => (e.2.2.1, e.2.2.2)) xs ∧ xs.length = es.length ∧ ∀ (j : Nat) (x : List L2.Key × Addr × Value), xs[j]? = some x → ∃ e, es[j]? = some e ∧ x.1 = e.2.2.1 ∧ IsTup h e.1 #[.ref x.2.1, x.2.2] ∧ (tupleKind (mixKind P w)).is h x.1 x.2.1
  | [], _ => ⟨[], .nil, rfl, fun j x e => by simp at e⟩
  | e :: r, hE => by
    obtain ⟨xs, h1, h2, h3⟩ := de_vals ok r fun e he => hE e (List.mem_cons_of_mem _ he)
    obtain ⟨t1, t2⟩ := hE e (List.mem_cons_self ..)
    obtain ⟨_, its, rv, hT⟩ := ok _ _ t1
    obtain ⟨u, y, rfl, ru, ry⟩ := vals2 rv
    cases ru
    refine ⟨(e.2.2.1, e.2.1, y) :: xs, .cons ⟨rfl, t2, ry⟩ h1, by rw [List.length_cons, List.length_cons, h2], fun j x ej => ?_⟩
    cases j with
    | zero =>
      obtain rfl := Option.some.inj ej
      exact ⟨e, rfl, rfl, hT, key_of ok t2⟩
    | succ j =>
      rw [List.getElem?_cons_succ] at ej
      obtain ⟨e', e1, e2, e3⟩ := h3 j x ej
      exact ⟨e', by rw [List.getElem?_cons_succ]; exact e1, e2, e3⟩
theorem call_dictPT {X : Cx} (K : PySem.W.Frag) (hK : X.K = K) (hc : X.calm = true) (hu : X.A.units + 64 < cLine) : CallR X (.type "dict") (rDictPT K) := by
  subst hK
  intro pins s σ H vs us Q I r q
  obtain ⟨a, es, rfl, hq, hE, hnd, q⟩ := q
  obtain rfl := Vals.ref1 r
  obtain ⟨its, rv, pl, hz⟩ := I.list hq
  rw [List.length_map] at hz
  have eits : its = es.map fun e => Value.ref e.1 := by
    have e2 : es.map (fun e => V.ref e.1) = (es.map (·.1)).map V.ref := by rw [List.map_map]; rfl
    rw [e2] at rv
    rw [refs_at rv, List.map_map]
    rfl
  obtain ⟨xs, rel, hl, hx⟩ := de_vals I.hok es hE
  have hpl : PlainSeq "list" s.heap a its.toArray := by
    obtain ⟨o, n, ho, hc, hd, hdat⟩ := pl
    exact ⟨o, n, ho, hc, hd, hdat⟩
  have hitems : PairItems s.heap its.toArray (fun j => (es.map (·.1)).getD j 0) (xs.map fun x => (Value.ref x.2.1, x.2.2)) := by
    refine ⟨by rw [List.size_toArray, eits, List.length_map, List.length_map, hl], fun j k v hj => ?_⟩
    rw [List.getElem?_map] at hj
    cases hxj : xs[j]? with
    | none => rw [hxj] at hj; cases hj
    | some x =>
      rw [hxj] at hj
      obtain ⟨e, he, _, ht, _⟩ := hx j x hxj
      have hkv : (Value.ref x.2.1, x.2.2) = (k, v) := Option.some.inj hj
      cases hkv
      have hTs : (es.map (·.1)).getD j 0 = e.1 := by rw [List.getD_eq_getElem?_getD, List.getElem?_map, he]; rfl
      show its.toArray[j]? = some (.ref ((es.map (·.1)).getD j 0)) ∧ PairAt s.heap ((es.map (·.1)).getD j 0) _ _
      rw [hTs]
      refine ⟨?_, .inl ht⟩
      rw [List.getElem?_toArray, eits, List.getElem?_map, he]
      rfl
  have hk : xs.map (·.1) = es.map (·.2.2.1) := by
    apply List.ext_getElem?
    intro j
    rw [List.getElem?_map, List.getElem?_map]
    cases hxj : xs[j]? with
    | none =>
      have : xs.length ≤ j := List.getElem?_eq_none_iff.mp hxj
      rw [List.getElem?_eq_none (by omega)]
      rfl
    | some x =>
      obtain ⟨e, he, e1, _⟩ := hx j x hxj
      rw [he]
      show some x.1 = some e.2.2.1
      rw [e1]
  refine call_dict_pairsH (knd := tupleKind (mixKind X.prog X.w)) (ps := xs) (PairArg.list a its.toArray (fun j => (es.map (·.1)).getD j 0) (xs.map fun x => (Value.ref x.2.1, x.2.2))) (I.ok.hd hc) (by show X.A.units + 1 + 1 < cLine; omega) ⟨hpl, hitems⟩ ⟨by rw [List.length_map], fun i key v hr => ?_⟩ (fun h' hk' x hxm => ?_) (by rw [List.length_map, hl]; exact hz) fun h' tk hd' kk => ?_
  · have hr' : (xs.map fun x => (Value.ref x.2.1, x.2.2))[i]? = some (key, v) := hr
    rw [List.getElem?_map] at hr'
    cases hxi : xs[i]? with
    | none => rw [hxi] at hr'; cases hr'
    | some x =>
      rw [hxi] at hr'
      have hkv : (Value.ref x.2.1, x.2.2) = (key, v) := Option.some.inj hr'
      cases hkv
      exact ⟨x.1, x.2.1, rfl, rfl⟩
  · obtain ⟨j, hj⟩ := List.mem_iff_getElem?.mp hxm
    obtain ⟨e, _, _, _, his⟩ := hx j x hj
    exact tupleKind_stays.stays (fun b o vs n e _ => hk' b o (Nat.ne_of_lt (Heap.lt_size e)) (fun z => nomatch z) e) his
  · rw [storedAllH_nil_of_nodup xs (by rw [hk]; exact hnd)] at hd'
    have hm : (s.heap.objs.size == sysModules) = false := beq_eq_false_iff_ne.mpr (Nat.ne_of_gt I.big)
    have hf : H s.heap.objs.size = none := I.hok.fresh (Nat.le_refl _)
    obtain ⟨o, esd, epd, ho, hxd, hdat, hes, _, hn⟩ := hd'
    have rel2 : KT (upd H s.heap.objs.size (.dT (es.map fun e => (e.2.2.1, e.2.2.2)))) (es.map fun e => (e.2.2.1, e.2.2.2)) xs := rel.keeps fun b ys e => by rw [upd_ne (ne_of_none e hf)]; exact e
    exact ⟨.ref s.heap.objs.size, upd H s.heap.objs.size (.dT (es.map fun e => (e.2.2.1, e.2.2.2))), I.laid (t' := tk) (fun b u e => kk b u (fun z => nomatch z) e) (Nat.le_refl _)
      (show ObjOk X.prog X.w _ _ _ (.dT (es.map fun e => (e.2.2.1, e.2.2.2))) from ⟨by rw [List.length_map]; exact hz, hm, xs, rel2, o, esd, epd, ho, hxd, hdat, hes, hn⟩), rfl, q _ hf⟩

end
end FB

/-! # K6 -/
namespace FB
open PySem PySem.Spec PyProof.Rows L2
local macro_rules | `(tactic| walk_at "sx") => `(tactic| simp only [ap_Var, ap_C, ap_Op, ap_Un, ap_I, ap_I0, ap_U, ap_Eq, ap_Ne, ap_If, ap_Test, ap_B, ap_And, ap_Or, ap_Not, ap_AndV, ap_OrV, ap_NotV, ap_Chain, ap_CB, ap_Nil, ap_Cons, ap_Call, ap_Asg, ap_gName, ap_Seq, ap_Next, ap_Cont, ap_Ret, ap_IfS, ap_Par, ap_Par3, ap_Aug, ap_ip, ap_Drop, ap_gTup, ap_gCons, ap_gNil, ap_gSub, ap_Lst, ap_Tup, ap_Yes,
  List.getElem?_cons_zero, List.getElem?_cons_succ, List.set_cons_zero, List.set_cons_succ, Option.some.injEq, V.int.injEq, V.bl.injEq, V.ref.injEq, List.cons.injEq, and_true, true_and, exists_eq_left, exists_eq_left', exists_eq_right, exists_eq_right', exists_and_left, exists_and_right, List.append_nil, if_true, if_false, Bool.false_eq_true, Bool.not_true, Bool.not_false])
local macro_rules | `(tactic| walk_at "ev") => `(tactic| (intro H1 e1 Q1 q1; walk_at "sx"; exact q1 _ (Evl.Ex.refl _)))
section
variable {P : Program} {w : World} {K : PySem.W.Frag} {mg : Str → Option Value} {base : Heap}
/-! ### data: lists of ints, tuples of cells -/
theorem dpall_ints {K : PySem.W.Frag} {H : Hp} : ∀ ns : List Int, DpAll K H (ns.map V.int) (ns.map PyData.int)
  | [] => .nil
  | n :: r => .cons (.int n) (dpall_ints r)
theorem dp_ints {K : PySem.W.Frag} {H : Hp} {a : Addr} {ns : List Int} (h : SqL K H a (ns.map V.int)) : Dp K H (.ref a) (.list (ns.map PyData.int)) := .lst h (dpall_ints ns)
theorem lay_ints : ∀ ns : List Int, PyData.canLayAll0 (ns.map PyData.int) = true
  | [] => by simp [PyData.canLayAll0]
  | n :: r => by
    rw [List.map_cons]
    simp [PyData.canLayAll0, PyData.canLay0, lay_ints r]
theorem deep_ints : ∀ ns : List Int, PyData.depthAll (ns.map PyData.int) ≤ 1
  | [] => by simp [PyData.depthAll]
  | n :: r => by
    have := deep_ints r
    rw [List.map_cons]
    simp only [PyData.depthAll, PyData.depth]
    omega
theorem shaped_ints (ns : List Int) : SeqAt.shaped (.list (ns.map PyData.int)) = true := by
  have := deep_ints ns
  unfold SeqAt.shaped
  rw [Bool.and_eq_true]
  refine ⟨?_, decide_eq_true ?_⟩
  · simp only [PyData.canLay0, lay_ints]
  · simp only [PyData.depth]
    omega
theorem eqv_ints : ∀ ns ms : List Int, PyData.eqvAll (ns.map PyData.int) (ms.map PyData.int) = decide (ns = ms)
  | [], [] => by simp [PyData.eqvAll]
  | [], m :: r => by simp [PyData.eqvAll]
  | n :: r, [] => by simp [PyData.eqvAll]
  | n :: r, m :: q => by
    rw [List.map_cons, List.map_cons]
    simp only [PyData.eqvAll, PyData.eqv, eqv_ints r q]
    by_cases h1 : n = m
    · by_cases h2 : r = q
      · simp [h1, h2]
      · simp [h1, h2]
    · simp [h1]
theorem eqvL (ns ms : List Int) : PyData.eqv (.list (ns.map PyData.int)) (.list (ms.map PyData.int)) = decide (ns = ms) := by
  simp only [PyData.eqv, eqv_ints]
theorem eqD_ints {K : PySem.W.Frag} {H : Hp} {Q : VK} {a b : Addr} {ns ms : List Int} (h1 : SqL K H a (ns.map V.int)) (h2 : SqL K H b (ms.map V.int)) (q : Q (.bl (decide (ns = ms))) H) : rEqD K (.ref a) (.ref b) H Q :=
  ⟨_, _, dp_ints h1, dp_ints h2, shaped_ints ns, shaped_ints ms, by rw [eqvL]; exact q⟩
theorem neD_ints {K : PySem.W.Frag} {H : Hp} {Q : VK} {a b : Addr} {ns ms : List Int} (h1 : SqL K H a (ns.map V.int)) (h2 : SqL K H b (ms.map V.int)) (q : Q (.bl (!decide (ns = ms))) H) : rNeD K (.ref a) (.ref b) H Q :=
  ⟨_, _, dp_ints h1, dp_ints h2, shaped_ints ns, shaped_ints ms, by rw [eqvL]; exact q⟩
abbrev Cell := Int × Int × Int
def cellV (c : Cell) : List V := [.int c.1, .int c.2.1, .int c.2.2]
def cellD (c : Cell) : PyData := .tuple [.int c.1, .int c.2.1, .int c.2.2]
theorem lay_cells : ∀ cs : List Cell, PyData.canLayAll0 (cs.map cellD) = true
  | [] => by simp [PyData.canLayAll0]
  | n :: r => by
    rw [List.map_cons]
    simp [PyData.canLayAll0, PyData.canLay0, lay_cells r, cellD]
theorem deep_cells : ∀ cs : List Cell, PyData.depthAll (cs.map cellD) ≤ 3
  | [] => by simp [PyData.depthAll]
  | n :: r => by
    have := deep_cells r
    rw [List.map_cons]
    simp only [PyData.depthAll, PyData.depth, cellD]
    omega
theorem shaped_cells (cs : List Cell) : SeqAt.shaped (.tuple (cs.map cellD)) = true := by
  have := deep_cells cs
  unfold SeqAt.shaped
  rw [Bool.and_eq_true]
  refine ⟨?_, decide_eq_true ?_⟩
  · simp only [PyData.canLay0, lay_cells]
  · simp only [PyData.depth]
    omega
theorem eqv_cells : ∀ ns ms : List Cell, PyData.eqvAll (ns.map cellD) (ms.map cellD) = decide (ns = ms)
  | [], [] => by simp [PyData.eqvAll]
  | [], m :: r => by simp [PyData.eqvAll]
  | n :: r, [] => by simp [PyData.eqvAll]
  | (a, b, c) :: r, (d, e, f) :: q => by
    rw [List.map_cons, List.map_cons]
    simp only [PyData.eqvAll, PyData.eqv, eqv_cells r q, cellD, Bool.and_true]
    by_cases h1 : a = d
    · by_cases h2 : b = e
      · by_cases h3 : c = f
        · by_cases h4 : r = q
          · simp [h1, h2, h3, h4]
          · simp [h1, h2, h3, h4]
        · simp [h1, h2, h3]
      · simp [h1, h2]
    · simp [h1]
theorem eqvC (ns ms : List Cell) : PyData.eqv (.tuple (ns.map cellD)) (.tuple (ms.map cellD)) = decide (ns = ms) := by
  simp only [PyData.eqv, eqv_cells]
/-- a tuple of cells at a -/
def CellsAt (K : PySem.W.Frag) (H : Hp) (a : Addr) (cs : List Cell) : Prop := ∃ ts : List Addr, SqT K H a (ts.map V.ref) ∧ Paired (fun t c => SqT K H t (cellV c)) ts cs
theorem CellsAt.ex {K : PySem.W.Frag} {H H' : Hp} {a : Addr} {cs : List Cell} (e : Evl.Ex H H') (h : CellsAt K H a cs) : CellsAt K H' a cs :=
  let ⟨ts, h1, h2⟩ := h
  ⟨ts, Evl.ex_t e h1, Paired.mapP h2 fun _ _ q => Evl.ex_t e q⟩
theorem dpall_cells {K : PySem.W.Frag} {H : Hp} : ∀ {ts : List Addr} {cs : List Cell}, Paired (fun t c => SqT K H t (cellV c)) ts cs → DpAll K H (ts.map V.ref) (cs.map cellD)
  | _, _, .nil => .nil
  | _, _, .cons h t => .cons (.tup h (.cons (.int _) (.cons (.int _) (.cons (.int _) .nil)))) (dpall_cells t)
theorem CellsAt.dp {K : PySem.W.Frag} {H : Hp} {a : Addr} {cs : List Cell} (h : CellsAt K H a cs) : Dp K H (.ref a) (.tuple (cs.map cellD)) :=
  let ⟨_, h1, h2⟩ := h
  .tup h1 (dpall_cells h2)
theorem eqD_cells {K : PySem.W.Frag} {H : Hp} {Q : VK} {a b : Addr} {ns ms : List Cell} (h1 : CellsAt K H a ns) (h2 : CellsAt K H b ms) (q : Q (.bl (decide (ns = ms))) H) : rEqD K (.ref a) (.ref b) H Q :=
  ⟨_, _, h1.dp, h2.dp, shaped_cells ns, shaped_cells ms, by rw [eqvC]; exact q⟩
/-! ### set(t) of a tuple of ints -/
def rSetT (K : PySem.W.Frag) (w : World) : List V → Hp → VK → Prop := fun vs H Q => ∃ (p : Addr) (ns : List Int), vs = [.ref p] ∧ SqT K H p (ns.map V.int) ∧ ns.length ≤ 1000 ∧ ∀ (a : Addr) (c : Nat), c ≤ ns.length → H a = none → Q (.ref a) (upd H a (SetO w a (fun j => decide (j ∈ ns)) c))
theorem cr_setT {X : Cx} (K : PySem.W.Frag) (w : World) (hK : X.K = K) (hw : X.w = w) (hc : X.calm = true) : CallR X (.type "set") (rSetT K w) := by
  subst hK hw
  intro pins s σ H xs us Q I r h
  obtain ⟨p, ns, rfl, hq, hl, q⟩ := h
  obtain rfl := Vals.ref1 r
  obtain ⟨its, rv, pt, hz⟩ := I.tuple hq
  have hi : IntsAre its.toArray.toList ns := ints_of_vals rv
  refine call_set_tupI ns (I.ok.hd hc) (show s.heap.IsTuple p its.toArray from pt) hi (by unfold scanBound; omega) fun h' tk c R1 hcn k => ?_
  have hf : H s.heap.objs.size = none := I.hok.fresh (Nat.le_refl _)
  exact ⟨.ref _, upd H s.heap.objs.size (SetO X.w s.heap.objs.size (fun j => decide (j ∈ ns)) c), I.laid (t' := tk) (fun b u e => k b u e) (Nat.le_refl _) (setO_new R1), rfl, q _ c hcn hf⟩

end
end FB

/-! # K7 -/
namespace FB
open PySem PySem.Spec PyProof.Rows L2
local macro_rules | `(tactic| walk_at "sx") => `(tactic| simp only [ap_Var, ap_C, ap_Op, ap_Un, ap_I, ap_I0, ap_U, ap_Eq, ap_Ne, ap_If, ap_Test, ap_B, ap_And, ap_Or, ap_Not, ap_AndV, ap_OrV, ap_NotV, ap_Chain, ap_CB, ap_Nil, ap_Cons, ap_Call, ap_Asg, ap_gName, ap_Seq, ap_Next, ap_Cont, ap_Ret, ap_IfS, ap_Par, ap_Par3, ap_Aug, ap_ip, ap_Drop, ap_gTup, ap_gCons, ap_gNil, ap_gSub, ap_Lst, ap_Tup, ap_Yes,
  List.getElem?_cons_zero, List.getElem?_cons_succ, List.set_cons_zero, List.set_cons_succ, Option.some.injEq, V.int.injEq, V.bl.injEq, V.ref.injEq, List.cons.injEq, and_true, true_and, exists_eq_left, exists_eq_left', exists_eq_right, exists_eq_right', exists_and_left, exists_and_right, List.append_nil, if_true, if_false, Bool.false_eq_true, Bool.not_true, Bool.not_false])
local macro_rules | `(tactic| walk_at "ev") => `(tactic| (intro H1 e1 Q1 q1; walk_at "sx"; exact q1 _ (Evl.Ex.refl _)))
section
variable {P : Program} {w : World} {K : PySem.W.Frag} {mg : Str → Option Value} {base : Heap}

section
variable {K : PySem.W.Frag} {σ : L2.St} {H : Hp} {te : TE} {t : TT} {tl : TE}
theorem lcT {j : Nat} {vs : List Nat} {a : Addr} {xs : List V} (f : Nat → Bool) (v : Nat → V) (h : Evl.Ev tl σ H (.ref a)) (hx : SqT K H a xs) (hz : xs.length ≤ 40000) (hw : ∀ x, wipe ((wipe σ vs).set j (some x)) vs = wipe σ vs)
    (ht : ∀ (i : Nat) (x : V) H1, Evl.Ex H H1 → xs[i]? = some x → Evl.EvT t ((wipe σ vs).set j (some x)) H1 (f i)) (he : ∀ (i : Nat) (x : V) H1, Evl.Ex H H1 → xs[i]? = some x → f i = true → Evl.Ev te ((wipe σ vs).set j (some x)) H1 (v i)) :
    Evl.EvL (tLc (iTup K tl) (gName j) t te vs) σ H (Evl.given xs.length f v) := fun H0 e Q q => h H0 e _ fun H1 e1 => ⟨a, rfl, ⟨xs, Evl.ex_t (e.trans e1) hx⟩, fun Dl hD =>
  lc_tup (xs := xs) (Evl.Cw H1 f v Dl) ⟨hD, Evl.Ex.new hD, upd_same⟩ (fun i H' _ p => Evl.ex_t ((e.trans e1).trans p.2.1) hx) (fun i x H' hi p => ⟨hw x, Evl.cw_turn p (by have := (List.getElem?_eq_some_iff.mp hi).1; omega) (ht i x H1 (e.trans e1) hi) (fun hf => he i x H1 (e.trans e1) hi hf)⟩)
    (fun H' p => q Dl H' (Evl.fresh_back e1 p.1) (e1.trans p.2.1) p.2.2)⟩
theorem given_none (n : Nat) (v : Nat → V) : Evl.given n (fun _ => false) v = [] := by
  unfold Evl.given
  rw [List.filter_eq_nil_iff.mpr (fun _ _ => by decide)]
  rfl
end

end
end FB

/-! # K8 -/
namespace FB
open PySem PySem.Spec PyProof.Rows L2
local macro_rules | `(tactic| walk_at "sx") => `(tactic| simp only [ap_Var, ap_C, ap_Op, ap_Un, ap_I, ap_I0, ap_U, ap_Eq, ap_Ne, ap_If, ap_Test, ap_B, ap_And, ap_Or, ap_Not, ap_AndV, ap_OrV, ap_NotV, ap_Chain, ap_CB, ap_Nil, ap_Cons, ap_Call, ap_Asg, ap_gName, ap_Seq, ap_Next, ap_Cont, ap_Ret, ap_IfS, ap_Par, ap_Par3, ap_Aug, ap_ip, ap_Drop, ap_gTup, ap_gCons, ap_gNil, ap_gSub, ap_Lst, ap_Tup, ap_Yes,
  List.getElem?_cons_zero, List.getElem?_cons_succ, List.set_cons_zero, List.set_cons_succ, Option.some.injEq, V.int.injEq, V.bl.injEq, V.ref.injEq, List.cons.injEq, and_true, true_and, exists_eq_left, exists_eq_left', exists_eq_right, exists_eq_right', exists_and_left, exists_and_right, List.append_nil, if_true, if_false, Bool.false_eq_true, Bool.not_true, Bool.not_false])
local macro_rules | `(tactic| walk_at "ev") => `(tactic| (intro H1 e1 Q1 q1; walk_at "sx"; exact q1 _ (Evl.Ex.refl _)))
section
variable {P : Program} {w : World} {K : PySem.W.Frag} {mg : Str → Option Value} {base : Heap}
/-! ### {t: v}, t a tuple -/
def tDisp1T (tk tv : TE) : TE := fun σ H Q => ∀ p, H p = none → tk σ (upd H p (.dT [])) fun x H1 => tv σ H1 fun y H2 => H2 p = some (.dT []) ∧ ∃ (b : Addr) (k : List L2.Key), x = .ref b ∧ H2 b = some (.tup (k.map kV)) ∧ Q (.ref p) (upd H2 p (.dT [(k, y)]))
theorem pe_disp1T {X : Cx} {pos : Pos} {ke ve : Expr} {tk tv : TE} (hu : X.A.units + 1 < cLine) (hk : PE X ke tk) (hv : PE X ve tv) : PE X (.Dict [some ke] [ve] pos) (tDisp1T tk tv) := by
  refine ⟨fun pins s σ H Q I q => ?_⟩
  have hn := I.hok.fresh (Nat.le_refl s.heap.objs.size)
  have I1 := I.laid (a := s.heap.objs.size) (o := .dT []) (h' := s.heap.push { cls := .type "dict", data := .dict #[] }) (t' := s.toks) (fun _ _ q => Heap.get?_push_of_some _ q) (Nat.le_refl _) (dt_empty s.heap I.big)
  have hp : PPs X pos [some ke] [ve] [(tk, tv)] := pps_cons hk hv pps_nil
  have hshape : (evalEachOpt [some ke] X.env).zip ((evalEach [ve] X.env).map fun v => do let x ← v; standAt pos; pure x) = (pairTrees [some ke] [ve] X.env pos).map fun p => (some p.1, p.2) := by rfl
  rw [arm_eval_Dict, hshape, dictDisplay_pairs (pairTrees [some ke] [ve] X.env pos) (by intro z; cases z) (by show 1 < _; decide)]
  refine wpAny_bind (wpAny_standAt (wpAny_bind (wpAny_subDictH (knd := tupleKind (mixKind X.prog X.w)) (Q := fun d s' => wpAny _ _ (pure (Value.ref d)) _ _ s') (by show X.A.units < cLine; omega) (by show 1 ≤ 15; decide)
    (thn (hp.run pins _ σ _ (fun ps H2 => match ps with | [(x, y)] => H2 s.heap.objs.size = some (.dT []) ∧ ∃ (b : Addr) (k : List L2.Key), x = .ref b ∧ H2 b = some (.tup (k.map kV)) ∧ Q (.ref s.heap.objs.size) (upd H2 s.heap.objs.size (.dT [(k, y)])) | _ => False) I1 ?_) fun ws s2 h2 => ?_))))
  · exact q _ hn
  · obtain ⟨ps, H2, I2, rel, h2⟩ := h2
    match ps, h2, rel with
    | [(x, y)], ⟨e, b, k, hx, hb, q2⟩, rel =>
      subst hx
      cases rel with
      | @cons a b2 as bs h t =>
        cases t
        obtain ⟨b1, b3⟩ := h
        cases bu : b2 with
        | mk u1 u2 =>
          subst bu
          have e1 : u1 = Value.ref b := b1
          subst e1
          obtain ⟨z, hd, xs, rel2, dd⟩ := dt_of I2.hok e
          cases rel2
          refine ⟨[(k, b, u2)], ⟨rfl, rfl, key_of I2.hok hb, trivial⟩, dd, fun h' tk dd' hs => wpAny_pure ?_⟩
          have hne : b ≠ s.heap.objs.size := ne_of hb e (by intro z; cases z)
          have he : ∃ q, h'.get? s.heap.objs.size = some q := let ⟨q, _, _, hq, _⟩ := dd'; ⟨q, hq⟩
          rw [storedAllH_nil_of_nodup _ (by simp)] at dd'
          obtain ⟨o, es, ep, hq, h2, h3, h4, _, h5⟩ := dd'
          refine ⟨.ref s.heap.objs.size, _, d_write (ob := .dT [(k, y)]) I2 (by rw [e]; exact True.intro) hs he ⟨by show 1 ≤ sizeLine; decide, hd, [(k, b, u2)], .cons ⟨rfl, by rw [upd_ne hne]; exact hb, b3⟩ .nil, o, es, ep, hq, h2, h3, h4, h5⟩, rfl, q2⟩

end
end FB

/-! # W1 -/
namespace FB
open PySem PySem.Spec PyProof.Rows L2
local macro_rules | `(tactic| walk_at "sx") => `(tactic| simp only [ap_Var, ap_C, ap_Op, ap_Un, ap_I, ap_I0, ap_U, ap_Eq, ap_Ne, ap_If, ap_Test, ap_B, ap_And, ap_Or, ap_Not, ap_AndV, ap_OrV, ap_NotV, ap_Chain, ap_CB, ap_Nil, ap_Cons, ap_Call, ap_Asg, ap_gName, ap_Seq, ap_Next, ap_Cont, ap_Ret, ap_IfS, ap_Par, ap_Par3, ap_Aug, ap_ip, ap_Drop, ap_gTup, ap_gCons, ap_gNil, ap_gSub, ap_Lst, ap_Tup, ap_Yes,
  List.getElem?_cons_zero, List.getElem?_cons_succ, List.set_cons_zero, List.set_cons_succ, Option.some.injEq, V.int.injEq, V.bl.injEq, V.ref.injEq, List.cons.injEq, and_true, true_and, exists_eq_left, exists_eq_left', exists_eq_right, exists_eq_right', exists_and_left, exists_and_right, List.append_nil, if_true, if_false, Bool.false_eq_true, Bool.not_true, Bool.not_false])
local macro_rules | `(tactic| walk_at "ev") => `(tactic| (intro H1 e1 Q1 q1; walk_at "sx"; exact q1 _ (Evl.Ex.refl _)))
section
variable {P : Program} {w : World} {K : PySem.W.Frag} {mg : Str → Option Value} {base : Heap}
def sp_is_in : Sp := fun vs H Q _ => ∃ a b c : Int, vs = [.int a, .int b, .int c] ∧ Q (.bl (decide (b ≤ a ∧ a ≤ c))) H
theorem ok_is_in (T : Txt K mg) : FnOk P w K mg base CX0 1 T.f_is_in T.d_is_in ["value", "least", "most"] sp_is_in := by
  refine T.F_is_in.ok sc_is_in (fun vs H Q E h => ?_) (fun cdv A outer s H vs Q E hr h => ?_)
  · obtain ⟨a, b, c, rfl, _⟩ := h
    rfl
  · obtain ⟨a, b, c, rfl, q⟩ := h
    refine ⟨_, (pss_one (ps_ret (pe_and (pe_callB (isiS K rfl) (by rfl) T.z_isinstance (by decide +kernel) (pa_cons (pv 0) (pa_cons (pe_bltn (v := .ty "int") (by rfl) T.z_int (by decide +kernel) rfl) pa_nil))) (pe_and (pe_not (pe_callB (isiS K rfl) (by rfl) T.z_isinstance (by decide +kernel) (pa_cons (pv 0) (pa_cons (pe_bltn (v := .ty "bool") (by rfl) T.z_bool (by decide +kernel) rfl) pa_nil)))) (pe_one (pe_chain op_le op_le (pv 1) (pv 0) (pv 2))))))), ?_⟩
    rw [show start N_is_in [V.int a, V.int b, V.int c] = [some (V.int a), some (V.int b), some (V.int c)] from rfl]
    walk_at "sx"
    refine isi (.base (.int a)) (b := true) (by decide +kernel) ⟨true, rfl, ?_⟩
    walk_at "sx"
    refine isi (.base (.int a)) (b := false) (by decide +kernel) ⟨false, rfl, ?_⟩
    walk_at "sx"
    by_cases h1 : b ≤ a
    · rw [if_pos (decide_eq_true h1)]
      simpa only [h1, true_and] using q
    · rw [if_neg (by simpa using h1)]
      simpa only [h1, false_and, decide_false] using q

def sp_rests (K : PySem.W.Frag) : Sp := fun vs H Q _ => ∃ (r cl : Addr) (bs ss : List Int) (n h a b c : Int), vs = [.ref r, .ref cl, .int h] ∧ RuleAt K H r bs ss n ∧ SqT K H cl [.int a, .int b, .int c] ∧ (1 ≤ h ∧ h ≤ 3) ∧ (0 ≤ a ∧ 0 ≤ b ∧ 0 ≤ c) ∧
  ∀ H', Evl.Ex H H' → Q (.bl (restsM bs ss h a b c)) H'
theorem ok_rests (T : Txt K mg) : FnOk P w K mg base CX0 1 T.f_rests T.d_rests ["rule", "columns", "high"] (sp_rests K) := by
  refine T.F_rests.ok sc_rests (fun vs H Q E h => ?_) (fun cdv A outer s H vs Q E hr h => ?_)
  · obtain ⟨r, cl, bs, ss, n, h, a, b, c, rfl, _⟩ := h
    rfl
  · obtain ⟨r, cl, bs, ss, n, h, a, b, c, rfl, hR, hC, hh, ⟨ha, hb, hc⟩, q⟩ := h
    refine ⟨_, (pss_cons (ps_for PassesOwn.never rfl (pi_range2 (by rfl) T.z_range (pa_cons (pe_un un_neg pe_int) (pa_cons (pe_op op_add (pv 2) pe_int) pa_nil))) (pg_name (i := 3) sc_rests.nd rfl (Or.inl rfl)) (pss_cons (ps_par (i := 4) (j := 5) (by rfl) sc_rests.nd rfl rfl (by decide) rfl rfl (pa_cons pe_int (pa_cons (pe_ifExp (pt_chain op_le op_lt pe_int (pv 3) (pv 2)) (pe_op op_and (pe_op op_shr (pe_ix (ixt K rfl) (pv 1) pe_int (fun _ _ => rfl)) (pv 3)) pe_int) pe_int) pa_nil)) (by rfl))
      (pss_cons (ps_for PassesOwn.never rfl (piT K rfl (pv 1)) (pg_name (i := 6) sc_rests.nd rfl (Or.inl rfl)) (pss_one (ps_for PassesOwn.never rfl (piT K rfl (pe_tup (pa_cons (pe_op op_sub (pv 3) pe_int) (pa_cons (pv 3) (pa_cons (pe_op op_add (pv 3) pe_int) pa_nil))))) (pg_name (i := 7) sc_rests.nd rfl (Or.inl rfl)) (pss_one (ps_if (pt_chain op_le op_lt pe_int (pv 7) (pv 2)) (pss_one (ps_aug (i := 4) sc_rests.nd rfl (Or.inl rfl) (pe_op op_and (pe_op op_shr (pv 6) (pv 7)) pe_int) ip_add)) pss_nil)))))
      (pss_cons (ps_aug (i := 4) sc_rests.nd rfl (Or.inl rfl) (pv 5) ip_sub)
      (pss_one (ps_if (pt_cmpR op_ne (pe_cmpR (ins K rfl) (pv 4) (pe_ifExp (pt_cmpR op_eq (pv 5) pe_int (nomark _)) (pe_ix (ixt K rfl) (pv 0) pe_int (fun _ _ => rfl)) (pe_ix (ixt K rfl) (pv 0) pe_int (fun _ _ => rfl))) (by rfl)) (pe_cmpR op_eq (pv 5) pe_int (nomark _)) (nomark _)) (pss_one (ps_ret pe_bl)) pss_nil))))))
      (pss_one (ps_ret pe_bl))), ?_⟩
    rw [show start N_rests [V.ref r, V.ref cl, V.int h] = [some (V.ref r), some (V.ref cl), some (V.int h), none, none, none, none, none] from rfl]
    rw [ap_Seq]
    refine forR2 (lo := -1) (n := h + 1) (by walk_at "ev") (by omega) (fun i σ H' => ∃ y3 y4 y5 y6 y7, σ = [some (V.ref r), some (V.ref cl), some (V.int h), y3, y4, y5, y6, y7] ∧ Evl.Ex H H' ∧ ∀ k, k < i → okA bs ss h a b c ((k : Int) - 1) = true)
      (fun H1 e => ⟨_, _, _, _, _, rfl, e, fun k hk => absurd hk (Nat.not_lt_zero _)⟩) ?_ ?_
    · rintro i _ H1 hi ⟨y3, y4, y5, y6, y7, rfl, e1, hk⟩
      rw [show (-1 + (i : Int)) = (i : Int) - 1 by omega]
      generalize hy : (i : Int) - 1 = y
      have hC1 := Evl.ex_t e1 hC
      rw [ap_Seq]
      refine s_par (v := .int 0) (w := .int (bitA h b y)) ?_ fun H2 e2 => ?_
      · intro H2 e2 Q2 q2
        walk_at "sx"
        unfold bitA at q2
        by_cases h1 : 0 ≤ y
        · rw [if_pos (decide_eq_true h1)]
          by_cases h2 : y < h
          · rw [if_pos (decide_eq_true h2)]
            refine ⟨cl, _, 1, _, rfl, rfl, Evl.ex_t e2 hC1, atI_nat (j := 1) rfl, b, rfl, h1, ?_⟩
            rw [bit1 (Int.ediv_nonneg hb (Int.pow_nonneg (by decide)))]
            rw [if_pos ⟨h1, h2⟩] at q2
            exact q2 _ (Evl.Ex.refl _)
          · rw [if_neg (by simpa using h2)]
            rw [if_neg (fun z => h2 z.2)] at q2
            exact q2 _ (Evl.Ex.refl _)
        · rw [if_neg (by simpa using h1)]
          rw [if_neg (fun z => h1 z.1)] at q2
          exact q2 _ (Evl.Ex.refl _)
      · dsimp only
        rw [ap_Seq]
        have hC2 := Evl.ex_t e2 hC1
        refine Evl.s_forT (a := cl) (xs := [.int a, .int b, .int c]) (by walk_at "ev") hC2 (fun m σ H' => ∃ y6 y7, σ = [some (V.ref r), some (V.ref cl), some (V.int h), some (V.int y), some (V.int (colsN h ([a, b, c].take m) y)), some (V.int (bitA h b y)), y6, y7] ∧ Evl.Ex H2 H')
          (fun H3 e3 => ⟨_, _, rfl, e3⟩) (fun m σ' H' _ ⟨_, _, _, e⟩ => Evl.ex_t e hC2) ?_ ?_
        · rintro m x _ H3 hx ⟨y6, y7, rfl, e3⟩
          obtain ⟨cc, hcc, hc0, hx'⟩ : ∃ cc, x = V.int cc ∧ 0 ≤ cc ∧ [a, b, c][m]? = some cc := by
            match m, hx with
            | 0, hx => exact ⟨a, (Option.some.inj hx).symm, ha, rfl⟩
            | 1, hx => exact ⟨b, (Option.some.inj hx).symm, hb, rfl⟩
            | 2, hx => exact ⟨c, (Option.some.inj hx).symm, hc, rfl⟩
          subst hcc
          rw [ap_gName]
          have hT : colsN h ([a, b, c].take (m + 1)) y = colsN h ([a, b, c].take m) y + colN h cc y 3 := by
            unfold colsN
            rw [List.take_add_one, hx', List.map_append, List.sum_append]
            simp
          generalize colsN h ([a, b, c].take m) y = T0 at hT ⊢
          refine forNT (xs := [.int (y - 1), .int y, .int (y + 1)]) ?_ (fun p k σ H' => ∃ y7, σ = [some (V.ref r), some (V.ref cl), some (V.int h), some (V.int y), some (V.int (T0 + colN h cc y k)), some (V.int (bitA h b y)), some (V.int cc), y7] ∧ Evl.Ex H2 H' ∧ H' p = some (.tup [.int (y - 1), .int y, .int (y + 1)]))
            (fun p H4 _ e4 hp => ⟨y7, by simp only [colN, Int.add_zero, List.set_cons_succ, List.set_cons_zero], e3.trans e4, hp⟩) (fun p k σ' H' _ ⟨_, _, _, hp⟩ => Evl.st_of hp) ?_ ?_
          · refine Evl.eu_tup (by walk_at "ev") (by simp)
          · rintro p k x _ H4 hx ⟨y7, rfl, e4, hp⟩
            obtain ⟨hk3, rfl⟩ : k < 3 ∧ x = V.int (y - 1 + (k : Int)) := by
              match k, hx with
              | 0, hx => exact ⟨by omega, by rw [← Option.some.inj hx]; congr 1; omega⟩
              | 1, hx => exact ⟨by omega, by rw [← Option.some.inj hx]; congr 1; omega⟩
              | 2, hx => exact ⟨by omega, by rw [← Option.some.inj hx]; congr 1; omega⟩
            rw [ap_gName]
            generalize hyk : y - 1 + (k : Int) = yk
            have hcol : colN h cc y (k + 1) = colN h cc y k + bitA h cc yk := by
              rw [← hyk]; rfl
            walk_at "sx"
            by_cases h1 : 0 ≤ yk
            · rw [if_pos (decide_eq_true h1)]
              by_cases h2 : yk < h
              · rw [if_pos (decide_eq_true h2)]
                refine ⟨h1, ?_, e4, hp⟩
                rw [bit1 (Int.ediv_nonneg hc0 (Int.pow_nonneg (by decide))), hcol]
                unfold bitA
                rw [if_pos ⟨h1, h2⟩, Int.add_assoc]
              · rw [if_neg (by simpa using h2)]
                refine ⟨?_, e4, hp⟩
                rw [hcol]
                unfold bitA
                rw [if_neg (fun z => h2 z.2), Int.add_zero]
            · rw [if_neg (by simpa using h1)]
              refine ⟨?_, e4, hp⟩
              rw [hcol]
              unfold bitA
              rw [if_neg (fun z => h1 z.1), Int.add_zero]
          · rintro p _ H4 ⟨y7, rfl, e4, hp⟩
            exact ⟨_, _, by rw [hT]; rfl, e4⟩
        · rintro _ H3 ⟨y6, y7, rfl, e3⟩
          dsimp only
          have hyl : y = (i : Int) - 1 := hy.symm
          have e12 := (e1.trans e2).trans e3
          obtain ⟨ba, sa, r1, r2, r3⟩ := hR.ex e12
          rw [List.take_of_length_le (by simp)]
          have fin : ∀ y6 y7 : Option V, okA bs ss h a b c y = true → ∃ z3 z4 z5 z6 z7, [some (V.ref r), some (V.ref cl), some (V.int h), some (V.int y), some (V.int (colsN h [a, b, c] y - bitA h b y)), some (V.int (bitA h b y)), y6, y7] = [some (V.ref r), some (V.ref cl), some (V.int h), z3, z4, z5, z6, z7] ∧
              Evl.Ex H H3 ∧ ∀ k, k < i + 1 → okA bs ss h a b c ((k : Int) - 1) = true := fun y6 y7 ho => ⟨_, _, _, _, _, rfl, e12, fun k hk' => by
            by_cases ek : k = i
            · rw [ek, hy]; exact ho
            · exact hk k (by omega)⟩
          have bad : okA bs ss h a b c y = false → Q (.bl false) H3 := fun ho => by
            have e2 : restsM bs ss h a b c = false := by
              unfold restsM
              rw [List.all_eq_false]
              refine ⟨i, List.mem_range.mpr (by omega), ?_⟩
              rw [hy, ho]
              decide
            have := q H3 e12
            rw [e2] at this
            exact this
          rw [show okA bs ss h a b c y = (decide (colsN h [a, b, c] y - bitA h b y ∈ (if bitA h b y = 1 then ss else bs)) == decide (bitA h b y = 1)) from rfl] at fin bad
          walk_at "sx"
          generalize colsN h [a, b, c] y - bitA h b y = nr at fin bad ⊢
          generalize bitA h b y = hr1 at fin bad ⊢
          by_cases h1 : hr1 = 1
          · subst h1
            refine ⟨rfl, ?_⟩
            rw [if_pos (by decide)]
            refine ⟨r, _, 1, _, rfl, rfl, r1, atI_nat (j := 1) rfl, sa, _, rfl, .inr r3, rfl, flat_ints _, rfl, ?_⟩
            rw [if_neg (by decide), inV_int]
            refine ⟨rfl, ?_⟩
            rw [if_pos rfl] at fin bad
            rw [show decide ((1 : Int) = 1) = true from rfl] at fin bad ⊢
            cases hd : decide (nr ∈ ss) with
            | true =>
              rw [hd] at fin
              rw [if_neg (by decide)]
              exact (fin none none rfl).elim fun _ ⟨_, _, _, _, _, g⟩ => ⟨⟨_, rfl⟩, g⟩
            | false =>
              rw [hd] at bad
              rw [if_pos (by decide)]
              exact bad rfl
          · refine ⟨rfl, ?_⟩
            rw [if_neg (by simpa using h1)]
            refine ⟨r, _, 0, _, rfl, rfl, r1, atI_nat (j := 0) rfl, ba, _, rfl, .inr r2, rfl, flat_ints _, rfl, ?_⟩
            rw [if_neg (by decide), inV_int]
            refine ⟨rfl, ?_⟩
            rw [if_neg h1, decide_eq_false h1] at fin bad
            rw [decide_eq_false h1]
            cases hd : decide (nr ∈ bs) with
            | true =>
              rw [hd] at bad
              rw [if_pos (by decide)]
              exact bad rfl
            | false =>
              rw [hd] at fin
              rw [if_neg (by decide)]
              exact (fin none none rfl).elim fun _ ⟨_, _, _, _, _, g⟩ => ⟨⟨_, rfl⟩, g⟩
    · rintro _ H1 ⟨y3, y4, y5, y6, y7, rfl, e1, hk⟩
      walk_at "sx"
      have e2 : restsM bs ss h a b c = true := by
        unfold restsM
        rw [List.all_eq_true]
        exact fun k hk' => hk k (by have := List.mem_range.mp hk'; omega)
      have := q H1 e1
      rw [e2] at this
      exact this

end
end FB

/-! # W2 -/
namespace FB
open PySem PySem.Spec PyProof.Rows L2
local macro_rules | `(tactic| walk_at "sx") => `(tactic| simp only [ap_Var, ap_C, ap_Op, ap_Un, ap_I, ap_I0, ap_U, ap_Eq, ap_Ne, ap_If, ap_Test, ap_B, ap_And, ap_Or, ap_Not, ap_AndV, ap_OrV, ap_NotV, ap_Chain, ap_CB, ap_Nil, ap_Cons, ap_Call, ap_Asg, ap_gName, ap_Seq, ap_Next, ap_Cont, ap_Ret, ap_IfS, ap_Par, ap_Par3, ap_Aug, ap_ip, ap_Drop, ap_gTup, ap_gCons, ap_gNil, ap_gSub, ap_Lst, ap_Tup, ap_Yes,
  List.getElem?_cons_zero, List.getElem?_cons_succ, List.set_cons_zero, List.set_cons_succ, Option.some.injEq, V.int.injEq, V.bl.injEq, V.ref.injEq, List.cons.injEq, and_true, true_and, exists_eq_left, exists_eq_left', exists_eq_right, exists_eq_right', exists_and_left, exists_and_right, List.append_nil, if_true, if_false, Bool.false_eq_true, Bool.not_true, Bool.not_false])
local macro_rules | `(tactic| walk_at "ev") => `(tactic| (intro H1 e1 Q1 q1; walk_at "sx"; exact q1 _ (Evl.Ex.refl _)))
section
variable {P : Program} {w : World} {K : PySem.W.Frag} {mg : Str → Option Value} {base : Heap}
/-! ### inverse -/
def sp_inverse : Sp := fun vs H Q _ => ∃ n : Int, vs = [.int n] ∧ n % M.PI ≠ 0 ∧ ∀ r H', Evl.Ex H H' → M.inP r → M.φ r * M.φ n = 1 → Q (.int r) H'
theorem inv_turn {f s : Int} {m : Nat} {g : M.Fp} (h : M.φ f * M.φ s ^ m = g) :
    M.φ (if m % 2 = 1 then f * s % M.PI else f) * M.φ (s * s % M.PI) ^ (m / 2) = g := by
  rw [M.φ_mod, M.φ_mul, M.pow_two_mul, ← h]
  by_cases h1 : m % 2 = 1
  · rw [if_pos h1, M.φ_mod, M.φ_mul, show M.φ s ^ m = M.φ s ^ (2 * (m / 2) + 1) by rw [show 2 * (m / 2) + 1 = m by omega], Lean.Grind.Semiring.pow_succ]; grind
  · rw [if_neg h1, show 2 * (m / 2) = m by omega]
theorem cmul_in {i j : Int} (h : M.inP i) : CMul i j := .inl ⟨by have := h.1; omega, by have := h.2; omega⟩
theorem ok_inverse (T : Txt K mg) : FnOk P w K mg base CX0 1 T.f_inverse T.d_inverse ["number"] sp_inverse := by
  refine T.F_inverse.ok sc_inverse (fun vs H Q E h => ?_) (fun cdv A outer s H vs Q E hr h => ?_)
  · obtain ⟨n, rfl, _⟩ := h
    rfl
  · obtain ⟨n, rfl, hn, q⟩ := h
    refine ⟨_, (pss_cons (ps_par3 (i := 1) (j := 2) (l := 3) (by rfl) sc_inverse.nd rfl rfl rfl (by decide) (by decide) (by decide) rfl rfl rfl (pa_cons pe_int (pa_cons (pe_op op_mod (pv 0) (pe_glob (v := .int 2305843009213693951) (by rfl) T.c_PRIME ⟨_, rfl⟩)) (pa_cons (pe_op op_sub (pe_glob (v := .int 2305843009213693951) (by rfl) T.c_PRIME ⟨_, rfl⟩) pe_int) pa_nil))) (by rfl))
      (pss_cons (ps_while PassesOwn.never (pt_cmpR op_gt (pv 3) pe_int (nomark _)) (pss_cons (ps_if (pt_cmpR op_eq (pe_op op_mod (pv 3) pe_int) pe_int (nomark _)) (pss_one (ps_asg (pe_op op_mod (pe_op op_mul (pv 1) (pv 2)) (pe_glob (v := .int 2305843009213693951) (by rfl) T.c_PRIME ⟨_, rfl⟩)) (pg_name (i := 1) sc_inverse.nd rfl (Or.inl rfl)))) pss_nil)
      (pss_one (ps_par (i := 2) (j := 3) (by rfl) sc_inverse.nd rfl rfl (by decide) rfl rfl (pa_cons (pe_op op_mod (pe_op op_mul (pv 2) (pv 2)) (pe_glob (v := .int 2305843009213693951) (by rfl) T.c_PRIME ⟨_, rfl⟩)) (pa_cons (pe_op op_fdivW (pv 3) pe_int) pa_nil)) (by rfl)))))
      (pss_one (ps_ret (pv 1))))), ?_⟩
    rw [show start N_inverse [V.int n] = [some (V.int n), none, none, none] from rfl]
    rw [ap_Seq]
    refine s_par3 (u := .int 1) (v := .int (n % M.PI)) (w := .int 2305843009213693949) ?_ fun H1 e1 => ?_
    · intro H1 e1 Q1 q1
      walk_at "sx"
      exact ⟨by decide, q1 _ (Evl.Ex.refl _)⟩
    · walk_at "sx"
      refine Evl.s_while (fun m σ H' => ∃ f s : Int, σ = [some (V.int n), some (V.int f), some (V.int s), some (V.int (m : Int))] ∧ Evl.Ex H H' ∧ M.inP f ∧ M.inP s ∧ M.φ f * M.φ s ^ m = M.φ n ^ 2305843009213693949) 2305843009213693949
        ⟨1, n % M.PI, rfl, e1, ⟨by decide, by decide⟩, M.inP_mod _, by rw [M.φ_one, M.φ_mod]; grind⟩ ?_
      rintro m _ H2 ⟨f, s, rfl, e2, hf, hs, hm⟩
      refine ⟨decide ((0 : Int) < (m : Int)), by walk_at "ev", fun hb H3 e3 => ?_, fun hb H3 e3 => ?_⟩
      · have hm0 : 0 < m := by have := of_decide_eq_true hb; omega
        refine ⟨fun σ H' => ∃ f s : Int, σ = [some (V.int n), some (V.int f), some (V.int s), some (V.int ((m / 2 : Nat) : Int))] ∧ Evl.Ex H H' ∧ M.inP f ∧ M.inP s ∧ M.φ f * M.φ s ^ (m / 2) = M.φ n ^ 2305843009213693949,
          fun σ2 H4 hN => ⟨m / 2, by omega, hN⟩, ?_⟩
        have ht := inv_turn hm
        walk_at "sx"
        refine ⟨by decide, rfl, ?_⟩
        have hdv : CDivW (m : Int) 2 := ⟨by decide, by decide +kernel⟩
        have hcast : V.int ((m : Int) / 2) = V.int ((m / 2 : Nat) : Int) := by congr 1
        by_cases h1 : m % 2 = 1
        · rw [if_pos (decide_eq_true (by omega))]
          rw [if_pos h1] at ht
          exact ⟨cmul_in hf, by decide, cmul_in hs, by decide, hdv, _, _, ⟨rfl, rfl⟩, _, _, ⟨rfl, rfl, hcast⟩, e2.trans e3, M.inP_mod _, M.inP_mod _, ht⟩
        · rw [if_neg (by simpa using (by omega : ¬ (m : Int) % 2 = 1))]
          rw [if_neg h1] at ht
          exact ⟨cmul_in hs, by decide, hdv, _, _, ⟨rfl, rfl⟩, _, _, ⟨rfl, rfl, hcast⟩, e2.trans e3, hf, M.inP_mod _, ht⟩
      · have hm0 : m = 0 := by have := of_decide_eq_false hb; omega
        subst hm0
        walk_at "sx"
        refine q f H3 (e2.trans e3) hf ?_
        rw [Lean.Grind.Semiring.pow_zero] at hm
        have h1 : M.φ n ^ (2305843009213693949 + 1) = 1 := M.fermat (M.φ n) fun e => hn (M.φ_eq_zero.mp e)
        rw [Lean.Grind.Semiring.pow_succ] at h1
        have h2 : M.φ f = M.φ n ^ 2305843009213693949 := by rw [← hm]; grind
        rw [h2]
        exact h1

/-! ### times_step -/
def spT_in (l : List Int) : Prop := ∀ x ∈ l, M.inP x
def sp_times_step (K : PySem.W.Frag) : Sp := fun vs H Q _ => ∃ (a b : Addr) (row rule : List Int), vs = [.ref a, .ref b] ∧ SqL K H a (row.map V.int) ∧ SqL K H b (rule.map V.int) ∧ row.length = rule.length ∧ 0 < rule.length ∧ rule.length ≤ 1000 ∧ spT_in row ∧
  ∀ p H', Evl.Ex H H' → H p = none → H' p = some (.lst ((M.tstepM row rule).map V.int)) → Q (.ref p) H'
theorem ok_times_step (T : Txt K mg) : FnOk P w K mg base CX0 1 T.f_times_step T.d_times_step ["row", "rule"] (sp_times_step K) := by
  refine T.F_times_step.ok sc_times_step (fun vs H Q E h => ?_) (fun cdv A outer s H vs Q E hr h => ?_)
  · obtain ⟨a, b, row, rule, rfl, _⟩ := h
    rfl
  · obtain ⟨a, b, row, rule, rfl, hA, hB, hl, h0, h1000, hin, q⟩ := h
    refine ⟨_, (pss_cons (ps_asg (pe_callB (lenS K rfl) (by rfl) T.z_len (by decide +kernel) (pa_cons (pv 1) pa_nil)) (pg_name (i := 2) sc_times_step.nd rfl (Or.inr rfl)))
      (pss_cons (ps_asg (pe_ix (ixl K rfl) (pv 0) (pe_op op_sub (pv 2) pe_int) (fun _ _ => rfl)) (pg_name (i := 3) sc_times_step.nd rfl (Or.inr rfl)))
      (pss_one (ps_ret (pe_lc (own := [("at", 4)]) (by rfl) sc_times_step.nd (pi_range1 (by rfl) T.z_range (pa_cons (pv 2) pa_nil)) (blkOk_by (N := N_times_step) (sc := defScope s_times_step) (by decide +kernel)) (fun _ _ _ _ _ => (pg_name (i := 4) sc_times_step.nd rfl (Or.inl rfl))) (fun _ _ _ _ _ => pts_nil) (fun _ _ _ _ _ => (pe_op op_mod (pe_op op_add (pe_ifExp (pt_cmpR op_gt (pv 4) pe_int (nomark _)) (pe_ix (ixl K rfl) (pv 0) (pe_op op_sub (pv 4) pe_int) (fun _ _ => rfl)) pe_int) (pe_op op_mul (pv 3) (pe_ix (ixl K rfl) (pv 1) (pe_op op_sub (pe_op op_sub (pv 2) pe_int) (pv 4)) (fun _ _ => rfl)))) (pe_glob (v := .int 2305843009213693951) (by rfl) T.c_PRIME ⟨_, rfl⟩)))))))), ?_⟩
    rw [show start N_times_step [V.ref a, V.ref b] = [some (V.ref a), some (V.ref b), none, none, none] from rfl]
    walk_at "sx"
    refine ⟨b, _, rfl, .inl hB, ?_⟩
    refine ⟨_, rfl, ?_⟩
    rw [List.length_map]
    refine ixI hA (by omega) (by omega) ?_
    have hget : ∀ (l : List Int) (i : Nat), spT_in l → i < l.length → M.inP (l.getD i 0) := fun l i hl hi => by
      rw [List.getD_eq_getElem?_getD, List.getElem?_eq_getElem hi]
      exact hl _ (List.getElem_mem hi)
    have hlc := lcR1 (σ := [some (V.ref a), some (V.ref b), some (V.int (rule.length : Int)), some (V.int (row.getD ((rule.length : Int) - 1).toNat 0)), none]) (H := H) (j := 4) (vs := [4]) (n := (rule.length : Int)) (ta := tCons (tVar 2) tNil)
      (te := (tOp (rI (fun x j => 0 < j) fun i j => V.int (i % j)) (tOp (rI0 fun i j => V.int (i + j)) (tIf (tTest (tOp (rI0 fun i j => V.bl (decide (j < i))) (tVar 4) (tC (V.int 0)))) (tOp (rIxL K) (tVar 0) (tOp (rI0 fun i j => V.int (i - j)) (tVar 4) (tC (V.int 1)))) (tC (V.int 0)))
        (tOp (rI CMul fun i j => V.int (i * j)) (tVar 3) (tOp (rIxL K) (tVar 1) (tOp (rI0 fun i j => V.int (i - j)) (tOp (rI0 fun i j => V.int (i - j)) (tVar 2) (tC (V.int 1))) (tVar 4))))) (tC (V.int 2305843009213693951))))
      (fun i => .int (((if 0 < i then row.getD (i - 1) 0 else 0) + row.getD (rule.length - 1) 0 * rule.getD (rule.length - 1 - i) 0) % M.PI)) (by walk_at "ev") (by omega) (fun _ => rfl) (fun i H1 e1 hi => ?_)
    · refine hlc H (Evl.Ex.refl _) _ fun p H1 hp e1 h1 => q p H1 e1 hp ?_
      rw [h1, Int.toNat_natCast]
      unfold M.tstepM
      rw [List.map_map]
      rfl
    · intro H2 e2 Q2 q2
      show tOp _ _ _ [some (V.ref a), some (V.ref b), some (V.int (rule.length : Int)), some (V.int (row.getD ((rule.length : Int) - 1).toNat 0)), some (V.int (i : Int))] H2 Q2
      have e12 := e1.trans e2
      walk_at "sx"
      have tail : ∀ z : Int, z = (if 0 < i then row.getD (i - 1) 0 else 0) → rIxL K (V.ref b) (V.int ((rule.length : Int) - 1 - (i : Int))) H2 (fun x H1 => ∃ i, x = V.int i ∧ CMul (row.getD ((rule.length : Int) - 1).toNat 0) i ∧ 0 < (2305843009213693951 : Int) ∧ Q2 (V.int ((z + row.getD ((rule.length : Int) - 1).toNat 0 * i) % 2305843009213693951)) H1) := fun z hz => by
        refine ixI (Evl.ex_l e12 hB) (by omega) (by omega) ⟨_, rfl, cmul_in (hget row _ hin (by omega)), by decide, ?_⟩
        rw [hz, show ((rule.length : Int) - 1 - (i : Int)).toNat = rule.length - 1 - i by omega, show ((rule.length : Int) - 1).toNat = rule.length - 1 by omega]
        exact q2 _ (Evl.Ex.refl _)
      by_cases hi0 : 0 < i
      · rw [if_pos (decide_eq_true (by omega))]
        refine ixI (Evl.ex_l e12 hA) (by omega) (by omega) ?_
        walk_at "sx"
        refine tail _ ?_
        rw [if_pos hi0, show ((i : Int) - 1).toNat = i - 1 by omega]
      · rw [if_neg (by simpa using hi0)]
        exact tail 0 (by rw [if_neg hi0])

end
end FB

/-! # W3 -/
namespace FB
open PySem PySem.Spec PyProof.Rows L2
local macro_rules | `(tactic| walk_at "sx") => `(tactic| simp only [ap_Var, ap_C, ap_Op, ap_Un, ap_I, ap_I0, ap_U, ap_Eq, ap_Ne, ap_If, ap_Test, ap_B, ap_And, ap_Or, ap_Not, ap_AndV, ap_OrV, ap_NotV, ap_Chain, ap_CB, ap_Nil, ap_Cons, ap_Call, ap_Asg, ap_gName, ap_Seq, ap_Next, ap_Cont, ap_Ret, ap_IfS, ap_Par, ap_Par3, ap_Aug, ap_ip, ap_Drop, ap_gTup, ap_gCons, ap_gNil, ap_gSub, ap_Lst, ap_Tup, ap_Yes,
  List.getElem?_cons_zero, List.getElem?_cons_succ, List.set_cons_zero, List.set_cons_succ, Option.some.injEq, V.int.injEq, V.bl.injEq, V.ref.injEq, List.cons.injEq, and_true, true_and, exists_eq_left, exists_eq_left', exists_eq_right, exists_eq_right', exists_and_left, exists_and_right, List.append_nil, if_true, if_false, Bool.false_eq_true, Bool.not_true, Bool.not_false])
local macro_rules | `(tactic| walk_at "ev") => `(tactic| (intro H1 e1 Q1 q1; walk_at "sx"; exact q1 _ (Evl.Ex.refl _)))
section
variable {P : Program} {w : World} {K : PySem.W.Frag} {mg : Str → Option Value} {base : Heap}

def sp_times (K : PySem.W.Frag) : Sp := fun vs H Q _ => ∃ (a b c : Addr) (one two rule : List Int), vs = [.ref a, .ref b, .ref c] ∧ SqL K H a (one.map V.int) ∧ SqL K H b (two.map V.int) ∧ SqL K H c (rule.map V.int) ∧ one.length = rule.length ∧ 0 < rule.length ∧ rule.length ≤ 1000 ∧ spT_in one ∧ spT_in two ∧
  ∀ p H', Evl.Ex H H' → H p = none → H' p = some (.lst ((M.timesM one two rule).map V.int)) → Q (.ref p) H'
theorem ok_times (T : Txt K mg) : FnOk P w K mg base CX0 2 T.f_times T.d_times ["one", "two", "rule"] (sp_times K) := by
  have G_times_step : FnOk P w K mg base CX0 1 T.f_times_step T.d_times_step ["row", "rule"] (sp_times_step K) := ok_times_step T
  refine T.F_times.ok sc_times (fun vs H Q E h => ?_) (fun cdv A outer s H vs Q E hr h => ?_)
  · obtain ⟨a, b, c, one, two, rule, rfl, _⟩ := h
    rfl
  · obtain ⟨a, b, c, one, two, rule, rfl, hA, hB, hC, hl, h0, h1000, hi1, hi2, q⟩ := h
    refine ⟨_, (pss_cons (ps_asg (pe_callB (lenS K rfl) (by rfl) T.z_len (by decide +kernel) (pa_cons (pv 2) pa_nil)) (pg_name (i := 3) sc_times.nd rfl (Or.inl rfl)))
      (pss_cons (ps_par (i := 4) (j := 5) (by rfl) sc_times.nd rfl rfl (by decide) rfl rfl (pa_cons (pe_op op_rep (pe_lst (pa_cons pe_int pa_nil)) (pv 3)) (pa_cons (pe_callTy (listS K rfl) (by rfl) T.z_list (by decide +kernel) (pa_cons (pv 0) pa_nil)) pa_nil)) (by rfl))
      (pss_cons (ps_for PassesOwn.never rfl (piL K rfl (pv 1)) (pg_name (i := 6) sc_times.nd rfl (Or.inr rfl)) (pss_cons (ps_setLc (i := 4) (own := [("a", 7), ("b", 8)]) (by rfl) sc_times.nd rfl rfl (sw_true rfl rfl rfl (by decide +kernel)) (piZp K rfl (by rfl) T.z_zip (pa_cons (pv 4) (pa_cons (pv 5) pa_nil))) (blkOk_by (N := N_times) (sc := defScope s_times) (by decide +kernel)) (fun _ _ _ _ _ => (pgT (n := 2) K rfl (by rfl) (pgs_cons (pg_name (i := 7) sc_times.nd rfl (Or.inl rfl)) (pgs_cons (pg_name (i := 8) sc_times.nd rfl (Or.inl rfl)) pgs_nil)))) (fun _ _ _ _ _ => pts_nil) (fun _ _ _ _ _ => (pe_op op_mod (pe_op op_add (pv 7) (pe_op op_mul (pv 6) (pv 8))) (pe_glob (v := .int 2305843009213693951) (by rfl) T.c_PRIME ⟨_, rfl⟩))))
      (pss_one (ps_asg (pe_call G_times_step (hr.mono (by decide)) (by rfl) T.g_times_step T.F_times_step.kp T.b_times_step .nil pass0 (pa_cons (pv 5) (pa_cons (pv 2) pa_nil))) (pg_name (i := 5) sc_times.nd rfl (Or.inl rfl))))))
      (pss_one (ps_ret (pv 4)))))), ?_⟩
    rw [show start N_times [V.ref a, V.ref b, V.ref c] = [some (V.ref a), some (V.ref b), some (V.ref c), none, none, none, none, none, none] from rfl]
    walk_at "sx"
    refine ⟨c, _, rfl, .inl hC, ?_⟩
    walk_at "sx"
    refine ⟨by decide, fun z hz => ?_⟩
    have hzn : H z = none := hz
    refine rep0 upd_same (by rw [List.length_map]; omega) (by rw [List.length_map]; omega) fun fp hfp => ?_
    rw [List.length_map, Int.toNat_natCast]
    have e1 : Evl.Ex H (upd H z (.lst [V.int 0])) := Evl.Ex.new hz
    have e2 := e1.trans (Evl.Ex.new (o := .lst (List.replicate rule.length (V.int 0))) hfp)
    refine ⟨a, _, rfl, .inl (Evl.ex_l e2 hA), fun hp hhp => ?_⟩
    have e3 := e2.trans (Evl.Ex.new (o := .lst (one.map V.int)) hhp)
    have nfh : fp ≠ hp := ne_of_none upd_same hhp
    refine ⟨_, _, ⟨rfl, rfl⟩, ?_⟩
    refine Evl.s_forL (a := b) (xs := two.map V.int) (by walk_at "ev") (Evl.ex_l e3 hB) (fun i σ H' => ∃ (F G : Addr) (y6 : Option V), σ = [some (V.ref a), some (V.ref b), some (V.ref c), some (V.int (rule.length : Int)), some (V.ref F), some (V.ref G), y6, none, none] ∧ Evl.Ex H H' ∧ H F = none ∧
        H' F = some (.lst ((((two.take i).foldl (M.stepT rule) (List.replicate rule.length 0, one)).1).map V.int)) ∧ H' G = some (.lst ((((two.take i).foldl (M.stepT rule) (List.replicate rule.length 0, one)).2).map V.int)))
      (fun H1 e => ⟨fp, hp, none, rfl, e3.trans e, Evl.fresh_back e1 hfp, e _ _ ?_, e _ _ ?_⟩) (fun i σ' H' _ ⟨_, _, _, _, e, _⟩ => Evl.ex_l e hB) ?_ ?_
    · rw [upd_ne nfh, upd_same, List.take_zero]
      show some (HO.lst (List.replicate rule.length (V.int 0))) = some (HO.lst ((List.replicate rule.length 0).map V.int))
      rw [List.map_replicate]
    · rw [upd_same]; rfl
    · rintro i x _ H1 hx ⟨F, G, y6, rfl, e4, hF0, hF, hG⟩
      have hi : i < two.length := by
        have := (List.getElem?_eq_some_iff.mp hx).1
        rwa [List.length_map] at this
      obtain ⟨v, hv, hx2⟩ : ∃ v, x = V.int v ∧ two[i]? = some v := by
        rw [List.getElem?_map, List.getElem?_eq_getElem hi] at hx
        exact ⟨two[i], (Option.some.inj hx).symm, List.getElem?_eq_getElem hi⟩
      subst hv
      have hvin : M.inP v := hi2 v (List.mem_of_getElem? hx2)
      have hst : (two.take (i + 1)).foldl (M.stepT rule) (List.replicate rule.length 0, one) = M.stepT rule ((two.take i).foldl (M.stepT rule) (List.replicate rule.length 0, one)) v := by
        rw [List.take_add_one, hx2, List.foldl_append]
        rfl
      have hl12 := M.foldT_len rule (two.take i) (List.replicate rule.length 0, one) (by simp) hl
      have hin := M.foldT_in rule (two.take i) (List.replicate rule.length 0, one) (fun x hx => by rw [List.eq_of_mem_replicate hx]; exact ⟨by decide, by decide⟩) hi1
      rw [hst]
      generalize (two.take i).foldl (M.stepT rule) (List.replicate rule.length 0, one) = st at hF hG hl12 hin ⊢
      rw [ap_gName]
      simp only [List.set_cons_zero, List.set_cons_succ]
      rw [ap_Seq]
      refine Evl.s_asgL (xs := (M.mixM v st.1 st.2).map V.int) ?_ fun F2 H2 hF2 e5 h5 => ?_
      · have hlc := lcZip (K := K) (σ := [some (V.ref a), some (V.ref b), some (V.ref c), some (V.int (rule.length : Int)), some (V.ref F), some (V.ref G), some (V.int v), none, none]) (H := H1) (i := 7) (j := 8) (vs := [7, 8]) (a := F) (b := G) (xs := st.1.map V.int) (ys := st.2.map V.int) (ta := tCons (tVar 4) (tCons (tVar 5) tNil))
          (te := (tOp (rI (fun x j => 0 < j) fun i j => V.int (i % j)) (tOp (rI0 fun i j => V.int (i + j)) (tVar 7) (tOp (rI CMul fun i j => V.int (i * j)) (tVar 6) (tVar 8))) (tC (V.int 2305843009213693951))))
          (fun k => .int ((st.1.getD k 0 + v * st.2.getD k 0) % M.PI)) (by walk_at "ev") (SqL.of hF) (SqL.of hG) (by rw [List.length_map, List.length_map, hl12.1, hl12.2]) (by rw [List.length_map]; omega) (fun _ _ => rfl) (fun k x y H2 e2 hx hy => ?_)
        · have e : (List.range (st.1.map V.int).length).map (fun k => V.int ((st.1.getD k 0 + v * st.2.getD k 0) % M.PI)) = (M.mixM v st.1 st.2).map V.int := by
            apply List.ext_getElem?
            intro k
            rw [List.getElem?_map, List.getElem?_map, List.length_map]
            unfold M.mixM
            rw [List.getElem?_zipWith]
            by_cases hk : k < st.1.length
            · rw [List.getElem?_range hk, List.getElem?_eq_getElem hk, List.getElem?_eq_getElem (by omega)]
              show some (V.int ((st.1.getD k 0 + v * st.2.getD k 0) % M.PI)) = some (V.int ((st.1[k] + v * st.2[k]'(by omega)) % M.PI))
              rw [List.getD_eq_getElem?_getD, List.getElem?_eq_getElem hk, List.getD_eq_getElem?_getD, List.getElem?_eq_getElem (by omega)]
              rfl
            · rw [List.getElem?_eq_none (by rw [List.length_range]; omega), List.getElem?_eq_none (by omega)]
              rfl
          rw [← e]
          exact hlc
        · have hg : ∀ (l : List Int) (z : V), (l.map V.int)[k]? = some z → z = V.int (l.getD k 0) := fun l z hz => by
            rw [List.getElem?_map] at hz
            rw [List.getD_eq_getElem?_getD]
            cases hq : l[k]? with
            | none => rw [hq] at hz; cases hz
            | some u => rw [hq] at hz; exact (Option.some.inj hz).symm
          obtain rfl := hg _ _ hx
          obtain rfl := hg _ _ hy
          intro H3 e3 Q3 q3
          show tOp _ _ _ [some (V.ref a), some (V.ref b), some (V.ref c), some (V.int (rule.length : Int)), some (V.ref F), some (V.ref G), some (V.int v), some (V.int (st.1.getD k 0)), some (V.int (st.2.getD k 0))] H3 Q3
          walk_at "sx"
          exact ⟨cmul_in hvin, by decide, q3 _ (Evl.Ex.refl _)⟩
      · simp only [List.set_cons_zero, List.set_cons_succ]
        walk_at "sx"
        refine ⟨G, c, st.2, rule, rfl, SqL.of (e5 _ _ hG), Evl.ex_l (e4.trans e5) hC, hl12.2, h0, h1000, hin.2, fun G2 H3 e6 hG2 h6 => ?_⟩
        exact ⟨F2, G2, ⟨rfl, rfl⟩, (e4.trans e5).trans e6, Evl.fresh_back e4 hF2, e6 _ _ h5, h6⟩
    · rintro _ H1 ⟨F, G, y6, rfl, e4, hF0, hF, hG⟩
      walk_at "sx"
      rw [List.length_map, List.take_length] at hF
      exact q F H1 e4 hF0 hF

end
end FB

/-! # W4 -/
namespace FB
open PySem PySem.Spec PyProof.Rows L2
local macro_rules | `(tactic| walk_at "sx") => `(tactic| simp only [ap_Var, ap_C, ap_Op, ap_Un, ap_I, ap_I0, ap_U, ap_Eq, ap_Ne, ap_If, ap_Test, ap_B, ap_And, ap_Or, ap_Not, ap_AndV, ap_OrV, ap_NotV, ap_Chain, ap_CB, ap_Nil, ap_Cons, ap_Call, ap_Asg, ap_gName, ap_Seq, ap_Next, ap_Cont, ap_Ret, ap_IfS, ap_Par, ap_Par3, ap_Aug, ap_ip, ap_Drop, ap_gTup, ap_gCons, ap_gNil, ap_gSub, ap_Lst, ap_Tup, ap_Yes,
  List.getElem?_cons_zero, List.getElem?_cons_succ, List.set_cons_zero, List.set_cons_succ, Option.some.injEq, V.int.injEq, V.bl.injEq, V.ref.injEq, List.cons.injEq, and_true, true_and, exists_eq_left, exists_eq_left', exists_eq_right, exists_eq_right', exists_and_left, exists_and_right, List.append_nil, if_true, if_false, Bool.false_eq_true, Bool.not_true, Bool.not_false])
local macro_rules | `(tactic| walk_at "ev") => `(tactic| (intro H1 e1 Q1 q1; walk_at "sx"; exact q1 _ (Evl.Ex.refl _)))
section
variable {P : Program} {w : World} {K : PySem.W.Frag} {mg : Str → Option Value} {base : Heap}
/-! ### far_number -/
def sp_far (K : PySem.W.Frag) : Sp := fun vs H Q _ => ∃ (a b : Addr) (ns rule : List Int) (place : Nat) (s : Nat → M.Fp), vs = [.ref a, .ref b, .int (place : Int)] ∧ SqL K H a (ns.map V.int) ∧ SqL K H b (rule.map V.int) ∧ spT_in ns ∧ spT_in rule ∧ rule.length ≤ 1000 ∧ rule.length ≤ ns.length ∧
  (∀ i, i < ns.length → s i = M.φ (ns.getD i 0)) ∧ (∀ n, rule.length ≤ n → M.dsc s (M.fct (rule.map M.φ)) rule.length n = 0) ∧
  ∀ r H', Evl.Ex H H' → M.inP r → M.φ r = s place → Q (.int r) H'
def oneRow (size : Nat) : List Int := 1 :: List.replicate (size - 1) 0
theorem one_row {H : Hp} {Q : VK} {size : Nat} (h0 : 0 < size) (h1000 : size ≤ 1000) (q : ∀ p H', Evl.Ex H H' → H p = none → H' p = some (.lst ((oneRow size).map V.int)) → Q (.ref p) H') :
    [V.int 1].length ≤ sizeLine ∧ ∀ (p : Addr), H p = none → [V.int 0].length ≤ sizeLine ∧ ∀ (p_1 : Addr), upd H p (HO.lst [V.int 1]) p_1 = none →
      rRep (V.ref p_1) (V.int ((size : Int) - 1)) (upd (upd H p (HO.lst [V.int 1])) p_1 (HO.lst [V.int 0])) fun y H2 => rCat (V.ref p) y H2 Q := by
  refine ⟨by decide, fun p hp => ⟨by decide, fun p1 hp1 => rep0 upd_same (by omega) (by omega) fun p2 hp2 => ?_⟩⟩
  have e1 : Evl.Ex H (upd H p (.lst [V.int 1])) := Evl.Ex.new hp
  have e2 := e1.trans (Evl.Ex.new (o := .lst [V.int 0]) hp1)
  have e3 := e2.trans (Evl.Ex.new (o := .lst (List.replicate ((size : Int) - 1).toNat (V.int 0))) hp2)
  have n1 : p ≠ p1 := ne_of_none upd_same hp1
  have n2 : p ≠ p2 := ne_of_none (show _ = some (HO.lst [V.int 1]) by rw [upd_ne n1]; exact upd_same) hp2
  refine ⟨p, p2, [V.int 1], _, rfl, rfl, by rw [upd_ne n2, upd_ne n1]; exact upd_same, upd_same, ?_, fun p3 hp3 => ?_⟩
  · rw [List.length_replicate]
    show 1 + _ ≤ sizeLine
    have : sizeLine = 16777216 := by decide
    omega
  · refine q p3 _ (e3.trans (Evl.Ex.new hp3)) (Evl.fresh_back e3 hp3) ?_
    rw [upd_same]
    unfold oneRow
    rw [List.map_cons, List.map_replicate, show ((size : Int) - 1).toNat = size - 1 by omega]
    rfl
theorem oneRow_in (size : Nat) : spT_in (oneRow size) := fun x hx => by
  rcases List.mem_cons.mp hx with e | e
  · subst e; exact ⟨by decide, by decide⟩
  · rw [List.eq_of_mem_replicate e]; exact ⟨by decide, by decide⟩
theorem oneRow_len {size : Nat} (h : 0 < size) : (oneRow size).length = size := by
  unfold oneRow
  rw [List.length_cons, List.length_replicate]
  omega
theorem oneRow_stands {s : Nat → M.Fp} {size : Nat} (h : 0 < size) : M.Stands s size ((oneRow size).map M.φ) 0 := by
  refine M.stands_one (by rw [List.length_map, oneRow_len h]) h fun i hi => ?_
  rw [M.fct_map]
  unfold oneRow
  cases i with
  | zero => exact M.φ_one
  | succ i =>
    rw [if_neg (by omega), List.getD_cons_succ, List.getD_eq_getElem?_getD, List.getElem?_replicate]
    split <;> exact M.φ_zero
theorem ok_far (T : Txt K mg) : FnOk P w K mg base CX0 3 T.f_far_number T.d_far_number ["numbers", "rule", "place"] (sp_far K) := by
  have G_times_step : FnOk P w K mg base CX0 1 T.f_times_step T.d_times_step ["row", "rule"] (sp_times_step K) := ok_times_step T
  have G_times : FnOk P w K mg base CX0 2 T.f_times T.d_times ["one", "two", "rule"] (sp_times K) := ok_times T
  refine T.F_far_number.ok sc_far_number (fun vs H Q E h => ?_) (fun cdv A outer s H vs Q E hr h => ?_)
  · obtain ⟨a, b, ns, rule, place, s, rfl, _⟩ := h
    rfl
  · obtain ⟨a, b, ns, rule, place, sq, rfl, hA, hB, hn, hru, h1000, hle, hs, hd, q⟩ := h
    refine ⟨_, (pss_cons (ps_asg (pe_callB (lenS K rfl) (by rfl) T.z_len (by decide +kernel) (pa_cons (pv 1) pa_nil)) (pg_name (i := 3) sc_far_number.nd rfl (Or.inl rfl)))
      (pss_cons (ps_if (pt_cmpR op_eq (pv 3) pe_int (nomark _)) (pss_one (ps_ret pe_int)) pss_nil)
      (pss_cons (ps_par3 (i := 4) (j := 5) (l := 6) (by rfl) sc_far_number.nd rfl rfl rfl (by decide) (by decide) (by decide) rfl rfl rfl (pa_cons (pe_op op_cat (pe_lst (pa_cons pe_int pa_nil)) (pe_op op_rep (pe_lst (pa_cons pe_int pa_nil)) (pe_op op_sub (pv 3) pe_int))) (pa_cons (pe_call G_times_step (hr.mono (by decide)) (by rfl) T.g_times_step T.F_times_step.kp T.b_times_step .nil pass0 (pa_cons (pe_op op_cat (pe_lst (pa_cons pe_int pa_nil)) (pe_op op_rep (pe_lst (pa_cons pe_int pa_nil)) (pe_op op_sub (pv 3) pe_int))) (pa_cons (pv 1) pa_nil))) (pa_cons (pv 2) pa_nil))) (by rfl))
      (pss_cons (ps_while PassesOwn.never (pt_cmpR op_gt (pv 6) pe_int (nomark _)) (pss_cons (ps_if (pt_cmpR op_eq (pe_op op_mod (pv 6) pe_int) pe_int (nomark _)) (pss_one (ps_asg (pe_call G_times (hr.mono (by decide)) (by rfl) T.g_times T.F_times.kp T.b_times .nil pass0 (pa_cons (pv 4) (pa_cons (pv 5) (pa_cons (pv 1) pa_nil)))) (pg_name (i := 4) sc_far_number.nd rfl (Or.inl rfl)))) pss_nil)
      (pss_one (ps_par (i := 5) (j := 6) (by rfl) sc_far_number.nd rfl rfl (by decide) rfl rfl (pa_cons (pe_call G_times (hr.mono (by decide)) (by rfl) T.g_times T.F_times.kp T.b_times .nil pass0 (pa_cons (pv 5) (pa_cons (pv 5) (pa_cons (pv 1) pa_nil)))) (pa_cons (pe_op op_fdivW (pv 6) pe_int) pa_nil)) (by rfl)))))
      (pss_one (ps_ret (pe_op op_mod (pe_callB (sumS K (by rfl) rfl) (by rfl) T.z_sum (by decide +kernel) (pa_cons (pe_lc (own := [("at", 7), ("factor", 8)]) (by rfl) sc_far_number.nd (piEn K rfl (by rfl) T.z_enumerate (pa_cons (pv 4) pa_nil)) (blkOk_by (N := N_far_number) (sc := defScope s_far_number) (by decide +kernel)) (fun _ _ _ _ _ => (pgT (n := 2) K rfl (by rfl) (pgs_cons (pg_name (i := 7) sc_far_number.nd rfl (Or.inl rfl)) (pgs_cons (pg_name (i := 8) sc_far_number.nd rfl (Or.inl rfl)) pgs_nil)))) (fun _ _ _ _ _ => pts_nil) (fun _ _ _ _ _ => (pe_op op_mul (pv 8) (pe_ix (ixl K rfl) (pv 0) (pv 7) (fun _ _ => rfl))))) pa_nil)) (pe_glob (v := .int 2305843009213693951) (by rfl) T.c_PRIME ⟨_, rfl⟩)))))))), ?_⟩
    rw [show start N_far_number [V.ref a, V.ref b, V.int (place : Int)] = [some (V.ref a), some (V.ref b), some (V.int (place : Int)), none, none, none, none, none, none] from rfl]
    walk_at "sx"
    refine ⟨b, _, rfl, .inl hB, ?_⟩
    rw [List.length_map]
    walk_at "sx"
    refine ⟨rfl, ?_⟩
    by_cases h0 : rule.length = 0
    · rw [if_pos (decide_eq_true (by omega))]
      refine q 0 H (Evl.Ex.refl H) ⟨by decide, by decide⟩ ?_
      have := hd place (by omega)
      unfold M.dsc at this
      rw [h0] at this
      rw [M.φ_zero]
      rw [M.sm_zero] at this
      grind
    · rw [if_neg (by simpa using h0)]
      have hpos : 0 < rule.length := by omega
      refine one_row hpos h1000 fun p1 H1 e1 hp1 h1 => ?_
      refine one_row hpos h1000 fun p2 H2 e2 hp2 h2 => ?_
      refine ⟨p2, b, oneRow rule.length, rule, rfl, SqL.of h2, Evl.ex_l (e1.trans e2) hB, oneRow_len hpos, hpos, h1000, oneRow_in _, fun p3 H3 e3 hp3 h3 => ?_⟩
      refine ⟨_, _, _, ⟨rfl, rfl, rfl⟩, ?_⟩
      refine Evl.s_while (fun m σ H' => ∃ (F G : Addr) (f g : List Int) (ef eg : Nat), σ = [some (V.ref a), some (V.ref b), some (V.int (place : Int)), some (V.int (rule.length : Int)), some (V.ref F), some (V.ref G), some (V.int (m : Int)), none, none] ∧ Evl.Ex H H' ∧
          H' F = some (.lst (f.map V.int)) ∧ H' G = some (.lst (g.map V.int)) ∧ spT_in f ∧ spT_in g ∧ M.Stands sq rule.length (f.map M.φ) ef ∧ M.Stands sq rule.length (g.map M.φ) eg ∧ ef + eg * m = place) place
        ⟨p1, p3, _, _, 0, 1, rfl, (e1.trans e2).trans e3, e3 _ _ (e2 _ _ h1), h3, oneRow_in _, M.tstepM_in _ _, oneRow_stands hpos, M.stands_tstep rfl hpos hd (oneRow_stands hpos), by omega⟩ ?_
      rintro m _ H4 ⟨F, G, f, g, ef, eg, rfl, e4, hF, hG, hf, hg, sf, sg, hm⟩
      have hfl : f.length = rule.length := by have := sf.1; rwa [List.length_map] at this
      have hgl : g.length = rule.length := by have := sg.1; rwa [List.length_map] at this
      refine ⟨decide ((0 : Int) < (m : Int)), by walk_at "ev", fun hb H5 e5 => ?_, fun hb H5 e5 => ?_⟩
      · have hm0 : 0 < m := by have := of_decide_eq_true hb; omega
        refine ⟨fun σ H' => ∃ (F G : Addr) (f g : List Int) (ef eg : Nat), σ = [some (V.ref a), some (V.ref b), some (V.int (place : Int)), some (V.int (rule.length : Int)), some (V.ref F), some (V.ref G), some (V.int ((m / 2 : Nat) : Int)), none, none] ∧ Evl.Ex H H' ∧
          H' F = some (.lst (f.map V.int)) ∧ H' G = some (.lst (g.map V.int)) ∧ spT_in f ∧ spT_in g ∧ M.Stands sq rule.length (f.map M.φ) ef ∧ M.Stands sq rule.length (g.map M.φ) eg ∧ ef + eg * (m / 2) = place, fun σ2 H6 hN => ⟨m / 2, by omega, hN⟩, ?_⟩
        have e45 := e4.trans e5
        have hdv : CDivW (m : Int) 2 := ⟨by decide, by decide +kernel⟩
        have hcast : V.int ((m : Int) / 2) = V.int ((m / 2 : Nat) : Int) := by congr 1
        walk_at "sx"
        refine ⟨by decide, rfl, ?_⟩
        by_cases h1 : m % 2 = 1
        · rw [if_pos (decide_eq_true (by omega))]
          refine ⟨F, G, b, f, g, rule, rfl, SqL.of (e5 _ _ hF), SqL.of (e5 _ _ hG), Evl.ex_l e45 hB, hfl, hpos, h1000, hf, hg, fun F2 H6 e6 hF2 h6 => ?_⟩
          refine ⟨G, G, b, g, g, rule, rfl, SqL.of (e6 _ _ (e5 _ _ hG)), SqL.of (e6 _ _ (e5 _ _ hG)), Evl.ex_l (e45.trans e6) hB, hgl, hpos, h1000, hg, hg, fun G2 H7 e7 hG2 h7 => ?_⟩
          refine ⟨hdv, _, _, ⟨rfl, rfl⟩, F2, G2, ⟨rfl, rfl, hcast⟩, (e45.trans e6).trans e7, _, e7 _ _ h6, _, h7, M.timesM_in _ _ _ hf, M.timesM_in _ _ _ hg, _, M.timesM_stands rfl hpos hd sf sg, _, M.timesM_stands rfl hpos hd sg sg, ?_⟩
          rw [← hm]
          have e : m = 2 * (m / 2) + 1 := by omega
          generalize m / 2 = k at e
          subst e
          grind
        · rw [if_neg (by simpa using (by omega : ¬ (m : Int) % 2 = 1))]
          refine ⟨G, G, b, g, g, rule, rfl, SqL.of (e5 _ _ hG), SqL.of (e5 _ _ hG), Evl.ex_l e45 hB, hgl, hpos, h1000, hg, hg, fun G2 H7 e7 hG2 h7 => ?_⟩
          refine ⟨hdv, _, _, ⟨rfl, rfl⟩, F, G2, ⟨rfl, rfl, hcast⟩, e45.trans e7, _, e7 _ _ (e5 _ _ hF), _, h7, hf, M.timesM_in _ _ _ hg, _, sf, _, M.timesM_stands rfl hpos hd sg sg, ?_⟩
          rw [← hm]
          have e : m = 2 * (m / 2) := by omega
          generalize m / 2 = k at e
          subst e
          grind
      · have hm0 : m = 0 := by have := of_decide_eq_false hb; omega
        subst hm0
        have e45 := e4.trans e5
        walk_at "sx"
        have hlc := lcEnum (K := K) (σ := [some (V.ref a), some (V.ref b), some (V.int (place : Int)), some (V.int (rule.length : Int)), some (V.ref F), some (V.ref G), some (V.int ((0 : Nat) : Int)), none, none]) (H := H5) (i := 7) (j := 8) (vs := [7, 8]) (a := F) (xs := f.map V.int) (ta := tCons (tVar 4) tNil)
          (te := (tOp (rI CMul fun i j => V.int (i * j)) (tVar 8) (tOp (rIxL K) (tVar 0) (tVar 7))))
          (fun k => .int (f.getD k 0 * ns.getD k 0)) (by walk_at "ev") (SqL.of (e5 _ _ hF)) (by rw [List.length_map]; omega) (fun _ _ => rfl) (fun k x H6 e6 hx => ?_)
        · refine hlc H5 (Evl.Ex.refl _) _ fun l H6 hl e6 h6 => ?_
          rw [List.length_map] at h6
          refine ⟨l, (List.range f.length).map (fun k => f.getD k 0 * ns.getD k 0), rfl, SqL.of (by rw [h6, List.map_map]; rfl), ?_⟩
          walk_at "sx"
          refine ⟨by decide, q _ H6 (e45.trans e6) (M.inP_mod _) ?_⟩
          show M.φ (((List.range f.length).map (fun k => f.getD k 0 * ns.getD k 0)).sum % M.PI) = sq place
          rw [M.φ_mod, M.φ_sum]
          have ht := sf.2 0
          unfold M.tell at ht
          rw [List.length_map] at ht
          rw [show place = 0 + ef by omega, ← ht]
          exact M.sm_congr fun i hi => by
            rw [M.φ_mul, M.fct_map, hs (0 + i) (by omega), Nat.zero_add]
        · rw [List.getElem?_map] at hx
          obtain ⟨u, hu, rfl⟩ : ∃ u, f[k]? = some u ∧ x = V.int u := by
            cases hq : f[k]? with
            | none => rw [hq] at hx; cases hx
            | some u => rw [hq] at hx; exact ⟨u, rfl, (Option.some.inj hx).symm⟩
          have hk : k < f.length := (List.getElem?_eq_some_iff.mp hu).1
          have huin : M.inP u := hf u (List.mem_of_getElem? hu)
          intro H7 e7 Q7 q7
          show tOp _ _ _ [some (V.ref a), some (V.ref b), some (V.int (place : Int)), some (V.int (rule.length : Int)), some (V.ref F), some (V.ref G), some (V.int ((0 : Nat) : Int)), some (V.int (k : Int)), some (V.int u)] H7 Q7
          walk_at "sx"
          refine ixI (Evl.ex_l (e45.trans (e6.trans e7)) hA) (by omega) (by omega) ?_
          walk_at "sx"
          refine ⟨cmul_in huin, ?_⟩
          rw [show f.getD k 0 = u by rw [List.getD_eq_getElem?_getD, hu]; rfl] at q7
          exact q7 _ (Evl.Ex.refl _)

end
end FB

/-! # W5 -/
namespace FB
open PySem PySem.Spec PyProof.Rows L2
local macro_rules | `(tactic| walk_at "sx") => `(tactic| simp only [ap_Var, ap_C, ap_Op, ap_Un, ap_I, ap_I0, ap_U, ap_Eq, ap_Ne, ap_If, ap_Test, ap_B, ap_And, ap_Or, ap_Not, ap_AndV, ap_OrV, ap_NotV, ap_Chain, ap_CB, ap_Nil, ap_Cons, ap_Call, ap_Asg, ap_gName, ap_Seq, ap_Next, ap_Cont, ap_Ret, ap_IfS, ap_Par, ap_Par3, ap_Aug, ap_ip, ap_Drop, ap_gTup, ap_gCons, ap_gNil, ap_gSub, ap_Lst, ap_Tup, ap_Yes,
  List.getElem?_cons_zero, List.getElem?_cons_succ, List.set_cons_zero, List.set_cons_succ, Option.some.injEq, V.int.injEq, V.bl.injEq, V.ref.injEq, List.cons.injEq, and_true, true_and, exists_eq_left, exists_eq_left', exists_eq_right, exists_eq_right', exists_and_left, exists_and_right, List.append_nil, if_true, if_false, Bool.false_eq_true, Bool.not_true, Bool.not_false])
local macro_rules | `(tactic| walk_at "ev") => `(tactic| (intro H1 e1 Q1 q1; walk_at "sx"; exact q1 _ (Evl.Ex.refl _)))
section
variable {P : Program} {w : World} {K : PySem.W.Frag} {mg : Str → Option Value} {base : Heap}

/-! ### shortest_rule -/
def sp_short (K : PySem.W.Frag) : Sp := fun vs H Q _ => ∃ (a : Addr) (ns : List Int) (s : Nat → M.Fp), vs = [.ref a] ∧ SqL K H a (ns.map V.int) ∧ spT_in ns ∧ ns.length ≤ 1000 ∧ (∀ i, i < ns.length → s i = M.φ (ns.getD i 0)) ∧
  ∀ p H' rule old gap last, Evl.Ex H H' → H p = none → H' p = some (.lst (rule.map V.int)) → M.BMI s ns.length rule old gap last → Q (.ref p) H'
theorem ok_short (T : Txt K mg) : FnOk P w K mg base CX0 2 T.f_shortest_rule T.d_shortest_rule ["numbers"] (sp_short K) := by
  have G_inverse : FnOk P w K mg base CX0 1 T.f_inverse T.d_inverse ["number"] sp_inverse := ok_inverse T
  refine T.F_shortest_rule.ok sc_shortest_rule (fun vs H Q E h => ?_) (fun cdv A outer s H vs Q E hr h => ?_)
  · obtain ⟨a, ns, s, rfl, _⟩ := h
    rfl
  · obtain ⟨a, ns, sq, rfl, hA, hn, h1000, hs, q⟩ := h
    refine ⟨_, (pss_cons (ps_asg (pe_tup (pa_cons (pe_lst pa_nil) (pa_cons (pe_lst pa_nil) (pa_cons pe_int (pa_cons pe_int (pa_cons pe_int pa_nil)))))) (pgT (n := 5) K rfl (by rfl) (pgs_cons (pg_name (i := 1) sc_shortest_rule.nd rfl (Or.inl rfl)) (pgs_cons (pg_name (i := 2) sc_shortest_rule.nd rfl (Or.inl rfl)) (pgs_cons (pg_name (i := 3) sc_shortest_rule.nd rfl (Or.inl rfl)) (pgs_cons (pg_name (i := 4) sc_shortest_rule.nd rfl (Or.inl rfl)) (pgs_cons (pg_name (i := 5) sc_shortest_rule.nd rfl (Or.inl rfl)) pgs_nil)))))))
      (pss_cons (ps_for PassesOwn.never rfl (piEn K rfl (by rfl) T.z_enumerate (pa_cons (pv 0) pa_nil)) (pgT (n := 2) K rfl (by rfl) (pgs_cons (pg_name (i := 6) sc_shortest_rule.nd rfl (Or.inr rfl)) (pgs_cons (pg_name (i := 7) sc_shortest_rule.nd rfl (Or.inl rfl)) pgs_nil))) (pss_cons (ps_asg (pe_op op_sub (pv 7) (pe_callB (sumS K (by rfl) rfl) (by rfl) T.z_sum (by decide +kernel) (pa_cons (pe_lc (own := [("back", 8), ("factor", 9)]) (by rfl) sc_shortest_rule.nd (piEn K rfl (by rfl) T.z_enumerate (pa_cons (pv 1) pa_nil)) (blkOk_by (N := N_shortest_rule) (sc := defScope s_shortest_rule) (by decide +kernel)) (fun _ _ _ _ _ => (pgT (n := 2) K rfl (by rfl) (pgs_cons (pg_name (i := 8) sc_shortest_rule.nd rfl (Or.inl rfl)) (pgs_cons (pg_name (i := 9) sc_shortest_rule.nd rfl (Or.inl rfl)) pgs_nil)))) (fun _ _ _ _ _ => pts_nil) (fun _ _ _ _ _ => (pe_op op_mul (pv 9) (pe_ix (ixl K rfl) (pv 0) (pe_op op_sub (pe_op op_sub (pv 6) pe_int) (pv 8)) (fun _ _ => rfl))))) pa_nil))) (pg_name (i := 10) sc_shortest_rule.nd rfl (Or.inl rfl)))
      (pss_cons (ps_aug (i := 10) sc_shortest_rule.nd rfl (Or.inl rfl) (pe_glob (v := .int 2305843009213693951) (by rfl) T.c_PRIME ⟨_, rfl⟩) iop_mod)
      (pss_cons (ps_if (pt_cmpR op_eq (pv 10) pe_int (nomark _)) (pss_cons (ps_aug (i := 3) sc_shortest_rule.nd rfl (Or.inl rfl) pe_int ip_add)
      (pss_one ps_continue)) pss_nil)
      (pss_cons (ps_par (i := 11) (j := 12) (by rfl) sc_shortest_rule.nd rfl rfl (by decide) rfl rfl (pa_cons (pe_op op_mod (pe_op op_mul (pv 10) (pe_call G_inverse (hr.mono (by decide)) (by rfl) T.g_inverse T.F_inverse.kp T.b_inverse .nil pass0 (pa_cons (pv 4) pa_nil))) (pe_glob (v := .int 2305843009213693951) (by rfl) T.c_PRIME ⟨_, rfl⟩)) (pa_cons (pv 1) pa_nil)) (by rfl))
      (pss_cons (ps_asg (pe_op op_cat (pv 1) (pe_op op_rep (pe_lst (pa_cons pe_int pa_nil)) (pe_callB (call_max2 (by rfl)) (by rfl) T.z_max (by decide +kernel) (pa_cons pe_int (pa_cons (pe_op op_sub (pe_op op_add (pv 3) (pe_callB (lenS K rfl) (by rfl) T.z_len (by decide +kernel) (pa_cons (pv 2) pa_nil))) (pe_callB (lenS K rfl) (by rfl) T.z_len (by decide +kernel) (pa_cons (pv 1) pa_nil))) pa_nil))))) (pg_name (i := 13) sc_shortest_rule.nd rfl (Or.inl rfl)))
      (pss_cons (ps_asg (pe_op op_mod (pe_op op_add (pe_ix (ixl K rfl) (pv 13) (pe_op op_sub (pv 3) pe_int) (fun _ _ => rfl)) (pv 11)) (pe_glob (v := .int 2305843009213693951) (by rfl) T.c_PRIME ⟨_, rfl⟩)) (pg_sub (pv 13) (pe_op op_sub (pv 3) pe_int) set_list))
      (pss_cons (ps_for PassesOwn.never rfl (piEn K rfl (by rfl) T.z_enumerate (pa_cons (pv 2) pa_nil)) (pgT (n := 2) K rfl (by rfl) (pgs_cons (pg_name (i := 8) sc_shortest_rule.nd rfl (Or.inl rfl)) (pgs_cons (pg_name (i := 9) sc_shortest_rule.nd rfl (Or.inl rfl)) pgs_nil))) (pss_one (ps_asg (pe_op op_mod (pe_op op_sub (pe_ix (ixl K rfl) (pv 13) (pe_op op_add (pv 3) (pv 8)) (fun _ _ => rfl)) (pe_op op_mul (pv 11) (pv 9))) (pe_glob (v := .int 2305843009213693951) (by rfl) T.c_PRIME ⟨_, rfl⟩)) (pg_sub (pv 13) (pe_op op_add (pv 3) (pv 8)) set_list))))
      (pss_cons (ps_if (pt_cmpR op_le (pe_op op_mul pe_int (pv 5)) (pv 6) (nomark _)) (pss_one (ps_asg (pe_tup (pa_cons (pv 12) (pa_cons (pv 10) (pa_cons pe_int (pa_cons (pe_op op_sub (pe_op op_add (pv 6) pe_int) (pv 5)) pa_nil))))) (pgT (n := 4) K rfl (by rfl) (pgs_cons (pg_name (i := 2) sc_shortest_rule.nd rfl (Or.inl rfl)) (pgs_cons (pg_name (i := 4) sc_shortest_rule.nd rfl (Or.inl rfl)) (pgs_cons (pg_name (i := 3) sc_shortest_rule.nd rfl (Or.inl rfl)) (pgs_cons (pg_name (i := 5) sc_shortest_rule.nd rfl (Or.inl rfl)) pgs_nil))))))) (pss_one (ps_aug (i := 3) sc_shortest_rule.nd rfl (Or.inl rfl) pe_int ip_add)))
      (pss_one (ps_asg (pe_op op_cat (pv 13) (pe_op op_rep (pe_lst (pa_cons pe_int pa_nil)) (pe_callB (call_max2 (by rfl)) (by rfl) T.z_max (by decide +kernel) (pa_cons pe_int (pa_cons (pe_op op_sub (pv 5) (pe_callB (lenS K rfl) (by rfl) T.z_len (by decide +kernel) (pa_cons (pv 13) pa_nil))) pa_nil))))) (pg_name (i := 1) sc_shortest_rule.nd rfl (Or.inl rfl)))))))))))))
      (pss_one (ps_ret (pv 1))))), ?_⟩
    rw [show start N_shortest_rule [V.ref a] = [some (V.ref a), none, none, none, none, none, none, none, none, none, none, none, none, none] from rfl]
    rw [ap_Seq, ap_Asg]
    walk_at "sx"
    refine ⟨by decide, fun R hR => ⟨by decide, fun O hO => ⟨by simp [sizeLine_eq], fun tp htp => ?_⟩⟩⟩
    have nRO : R ≠ O := ne_of_none upd_same hO
    have e1 : Evl.Ex H (upd H R (.lst [])) := Evl.Ex.new hR
    have e2 := e1.trans (Evl.Ex.new (o := .lst []) hO)
    have e3 := e2.trans (Evl.Ex.new (o := .tup [V.ref R, V.ref O, V.int 1, V.int 1, V.int 0]) htp)
    refine ⟨_, SqT.of upd_same, rfl, _, _, rfl, _, _, rfl, _, _, rfl, _, _, rfl, _, _, rfl, rfl, ?_⟩
    refine forEnum (a := a) (xs := ns.map V.int) (by walk_at "ev") (Evl.ex_l e3 hA) (fun i σ H' => ∃ (R O : Addr) (rule old : List Int) (gap : Nat) (last : Int) (y6 y7 y8 y9 y10 y11 y12 y13 : Option V),
        σ = [some (V.ref a), some (V.ref R), some (V.ref O), some (V.int (gap : Int)), some (V.int last), some (V.int (rule.length : Int)), y6, y7, y8, y9, y10, y11, y12, y13] ∧ Evl.Ex H H' ∧ H R = none ∧
        H' R = some (.lst (rule.map V.int)) ∧ H' O = some (.lst (old.map V.int)) ∧ M.BMI sq i rule old gap last) ?_ (fun i σ' H' _ ⟨_, _, _, _, _, _, _, _, _, _, _, _, _, _, _, e, _⟩ => Evl.ex_l e hA) ?_ ?_
    · intro H1 e
      refine ⟨R, O, [], [], 1, 1, _, _, _, _, _, _, _, _, rfl, e3.trans e, hR, e _ _ ?_, e _ _ ?_, M.BMI.start sq⟩
      · rw [upd_ne (ne_of_none (show _ = some (HO.lst []) by rw [upd_ne nRO]; exact upd_same) htp), upd_ne nRO, upd_same]; rfl
      · rw [upd_ne (ne_of_none upd_same htp), upd_same]; rfl
    · rintro i x _ H1 tt hx ⟨R, O, rule, old, gap, last, y6, y7, y8, y9, y10, y11, y12, y13, rfl, e4, hR0, hR1, hO1, hB⟩ htt
      have hi : i < ns.length := by
        have := (List.getElem?_eq_some_iff.mp hx).1
        rwa [List.length_map] at this
      obtain rfl : V.int (ns.getD i 0) = x := by
        rw [List.getElem?_map, List.getElem?_eq_getElem hi] at hx
        rw [List.getD_eq_getElem?_getD, List.getElem?_eq_getElem hi]
        exact Option.some.inj hx
      have e5 : Evl.Ex H (upd H1 tt (.tup [V.int (i : Int), V.int (ns.getD i 0)])) := e4.trans (Evl.Ex.new htt)
      have hR2 : (upd H1 tt (.tup [V.int (i : Int), V.int (ns.getD i 0)])) R = some (.lst (rule.map V.int)) := by rw [upd_ne (ne_of_none hR1 htt)]; exact hR1
      have hO2 : (upd H1 tt (.tup [V.int (i : Int), V.int (ns.getD i 0)])) O = some (.lst (old.map V.int)) := by rw [upd_ne (ne_of_none hO1 htt)]; exact hO1
      clear hR1 hO1 htt e4
      generalize (upd H1 tt (.tup [V.int (i : Int), V.int (ns.getD i 0)])) = H2 at e5 hR2 hO2 ⊢
      simp only [List.set_cons_zero, List.set_cons_succ]
      have hgp := hB.1.gp
      have hle := hB.1.le
      have hg1 := hB.1.g1
      simp only [List.length_map] at hgp hle
      rw [ap_Seq]
      refine Evl.s_asg (v := .int (ns.getD i 0 - ((List.range rule.length).map fun k => rule.getD k 0 * ns.getD (i - 1 - k) 0).sum)) ?_ fun H3 e6 => ?_
      · intro H3 e6 Q3 q3
        walk_at "sx"
        have hlc := lcEnum (K := K) (σ := [some (V.ref a), some (V.ref R), some (V.ref O), some (V.int (gap : Int)), some (V.int last), some (V.int (rule.length : Int)), some (V.int (i : Int)), some (V.int (ns.getD i 0)), y8, y9, y10, y11, y12, y13]) (H := H3) (i := 8) (j := 9) (vs := [8, 9]) (a := R) (xs := rule.map V.int) (ta := tCons (tVar 1) tNil)
          (te := (tOp (rI CMul fun i j => V.int (i * j)) (tVar 9) (tOp (rIxL K) (tVar 0) (tOp (rI0 fun i j => V.int (i - j)) (tOp (rI0 fun i j => V.int (i - j)) (tVar 6) (tC (V.int 1))) (tVar 8)))))
          (fun k => .int (rule.getD k 0 * ns.getD (i - 1 - k) 0)) (by walk_at "ev") (SqL.of (e6 _ _ hR2)) (by rw [List.length_map]; omega) (fun _ _ => rfl) (fun k x H4 e7 hx => ?_)
        · refine hlc H3 (Evl.Ex.refl _) _ fun l H4 hl e7 h7 => ?_
          rw [List.length_map] at h7
          refine ⟨l, (List.range rule.length).map (fun k => rule.getD k 0 * ns.getD (i - 1 - k) 0), rfl, SqL.of (by rw [h7, List.map_map]; rfl), ?_⟩
          walk_at "sx"
          exact q3 _ e7
        · rw [List.getElem?_map] at hx
          obtain ⟨u, hu, rfl⟩ : ∃ u, rule[k]? = some u ∧ x = V.int u := by
            cases hq : rule[k]? with
            | none => rw [hq] at hx; cases hx
            | some u => rw [hq] at hx; exact ⟨u, rfl, (Option.some.inj hx).symm⟩
          have hk : k < rule.length := (List.getElem?_eq_some_iff.mp hu).1
          have huin : M.inP u := hB.2.1 u (List.mem_of_getElem? hu)
          intro H5 e8 Q5 q5
          show tOp _ _ _ [some (V.ref a), some (V.ref R), some (V.ref O), some (V.int (gap : Int)), some (V.int last), some (V.int (rule.length : Int)), some (V.int (i : Int)), some (V.int (ns.getD i 0)), some (V.int (k : Int)), some (V.int u), y10, y11, y12, y13] H5 Q5
          walk_at "sx"
          refine ixI (Evl.ex_l (e5.trans (e6.trans (e7.trans e8))) hA) (by omega) (by omega) ?_
          walk_at "sx"
          refine ⟨cmul_in huin, ?_⟩
          rw [show rule.getD k 0 = u by rw [List.getD_eq_getElem?_getD, hu]; rfl] at q5
          rw [show ((i : Int) - 1 - (k : Int)).toNat = i - 1 - k by omega]
          exact q5 _ (Evl.Ex.refl _)
      · have e56 := e5.trans e6
        have hmd : (ns.getD i 0 - ((List.range rule.length).map fun k => rule.getD k 0 * ns.getD (i - 1 - k) 0).sum) % 2305843009213693951 = M.missM ns rule i := rfl
        walk_at "sx"
        rw [hmd]
        have hmi : M.inP (M.missM ns rule i) := M.inP_mod _
        refine ⟨by decide, rfl, ?_⟩
        by_cases hm0 : M.missM ns rule i = 0
        · rw [if_pos (decide_eq_true hm0)]
          exact ⟨R, O, rule, old, gap + 1, last, ⟨rfl, rfl, by omega, rfl, rfl⟩, e56, hR0, e6 _ _ hR2, e6 _ _ hO2, hB.same hs hi hm0⟩
        · rw [if_neg (by simpa using hm0)]
          have hR3 := e6 _ _ hR2
          have hO3 := e6 _ _ hO2
          clear hR2 hO2
          refine ⟨last, rfl, hB.last_ne, fun iv H4 e7 hiv hφ => ?_⟩
          refine ⟨iv, rfl, cmul_in hmi, by decide, _, _, ⟨rfl, rfl⟩, by decide, fun z hz => ?_⟩
          generalize hpt : M.missM ns rule i * iv % 2305843009213693951 = part
          have hpart : part = M.missM ns rule i * iv % M.PI := hpt.symm
          have e8 : Evl.Ex H4 (upd H4 z (.lst [V.int 0])) := Evl.Ex.new hz
          have hR4 := e8 _ _ (e7 _ _ hR3)
          have hO4 := e8 _ _ (e7 _ _ hO3)
          refine ⟨O, _, rfl, .inl (SqL.of hO4), _, rfl, R, _, rfl, .inl (SqL.of hR4), _, rfl, 0, _, ⟨rfl, rfl⟩, ?_⟩
          rw [List.length_map, List.length_map]
          have hnn : (if (gap : Int) + (old.length : Int) - (rule.length : Int) > 0 then (gap : Int) + (old.length : Int) - (rule.length : Int) else 0) = ((gap + old.length - rule.length : Nat) : Int) := by split <;> omega
          rw [hnn]
          refine rep0 upd_same (by omega) (by omega) fun z2 hz2 => ?_
          have e9 := e8.trans (Evl.Ex.new (o := .lst (List.replicate ((gap + old.length - rule.length : Nat) : Int).toNat (V.int 0))) hz2)
          refine ⟨R, z2, _, _, rfl, rfl, e9 _ _ (e7 _ _ hR3), upd_same, ?_, fun G hG => ?_⟩
          · rw [List.length_map, List.length_replicate]
            have : sizeLine = 16777216 := by decide
            omega
          have e10 := e9.trans (Evl.Ex.new (o := .lst (rule.map V.int ++ List.replicate ((gap + old.length - rule.length : Nat) : Int).toNat (V.int 0))) hG)
          have hGf : H4 G = none := Evl.fresh_back e9 hG
          have hG1 : (upd (upd (upd H4 z (.lst [V.int 0])) z2 (.lst (List.replicate ((gap + old.length - rule.length : Nat) : Int).toNat (V.int 0)))) G (.lst (rule.map V.int ++ List.replicate ((gap + old.length - rule.length : Nat) : Int).toNat (V.int 0)))) G = some (.lst ((M.pad rule (gap + old.length - rule.length)).map V.int)) := by
            rw [upd_same]
            unfold M.pad
            rw [List.map_append, List.map_replicate, Int.toNat_natCast]
          generalize (upd (upd (upd H4 z (.lst [V.int 0])) z2 (.lst (List.replicate ((gap + old.length - rule.length : Nat) : Int).toNat (V.int 0)))) G (.lst (rule.map V.int ++ List.replicate ((gap + old.length - rule.length : Nat) : Int).toNat (V.int 0)))) = H5 at e10 hG1 ⊢
          have hplen : (M.pad rule (gap + old.length - rule.length)).length = max rule.length (gap + old.length) := by
            unfold M.pad; rw [List.length_append, List.length_replicate]; omega
          refine ixI (SqL.of hG1) (by omega) (by omega) ⟨_, rfl, part, rfl, by decide, ?_⟩
          refine setI hG1 (by omega) (by omega) ?_
          rw [show ((gap : Int) - 1).toNat = gap - 1 by omega]
          have hK0 := M.GK.start (rule := rule) (old := old) (gap := gap) (part := part) hg1 hB.2.1 rfl
          have e11 : Evl.Ex H4 (upd H5 G (.lst ((((M.pad rule (gap + old.length - rule.length)).set (gap - 1) (((M.pad rule (gap + old.length - rule.length)).getD (gap - 1) 0 + part) % M.PI))).map V.int))) := e10.mut hGf
          refine forEnum (a := O) (xs := old.map V.int) (by walk_at "ev") (SqL.of (e11 _ _ (e7 _ _ hO3))) (fun k σ H' => ∃ (g : List Int) (y8 y9 : Option V), σ = [some (V.ref a), some (V.ref R), some (V.ref O), some (V.int (gap : Int)), some (V.int last), some (V.int (rule.length : Int)), some (V.int (i : Int)), some (V.int (ns.getD i 0)), y8, y9, some (V.int (M.missM ns rule i)), some (V.int part), some (V.ref R), some (V.ref G)] ∧
            Evl.Ex H4 H' ∧ H' G = some (.lst (g.map V.int)) ∧ M.GK rule old g gap part k) (fun H6 e => ⟨_, _, _, rfl, e11.trans e, e _ _ upd_same, hK0⟩) (fun k σ' H' _ ⟨_, _, _, _, e, _⟩ => SqL.of (e _ _ (e7 _ _ hO3))) ?_ ?_
          · rintro k x _ H6 tt hx ⟨g, y8, y9, rfl, e12, hg, hK⟩ htt
            have hk : k < old.length := by
              have := (List.getElem?_eq_some_iff.mp hx).1
              rwa [List.length_map] at this
            obtain rfl : V.int (old.getD k 0) = x := by
              rw [List.getElem?_map, List.getElem?_eq_getElem hk] at hx
              rw [List.getD_eq_getElem?_getD, List.getElem?_eq_getElem hk]
              exact Option.some.inj hx
            have e13 := e12.trans (Evl.Ex.new (o := .tup [V.int (k : Int), V.int (old.getD k 0)]) htt)
            have hg2 : (upd H6 tt (.tup [V.int (k : Int), V.int (old.getD k 0)])) G = some (.lst (g.map V.int)) := by rw [upd_ne (ne_of_none hg htt)]; exact hg
            generalize (upd H6 tt (.tup [V.int (k : Int), V.int (old.getD k 0)])) = H7 at e13 hg2 ⊢
            have hgl := hK.1
            walk_at "sx"
            refine ixI (SqL.of hg2) (by omega) (by omega) ?_
            walk_at "sx"
            refine ⟨cmul_in (by rw [hpart]; exact M.inP_mod _), by decide, ?_⟩
            refine setI hg2 (by omega) (by omega) ?_
            rw [show ((gap : Int) + (k : Int)).toNat = gap + k by omega]
            exact ⟨⟨_, rfl⟩, e13.mut hGf, _, upd_same, M.GK.step hg1 hk hK⟩
          · rintro _ H6 ⟨g, y8, y9, rfl, e12, hg, hK⟩
            rw [List.length_map] at hK
            have hgl := hK.1
            obtain ⟨st1, st2⟩ := hB.step hs hi hm0 hφ hpart hK
            walk_at "sx"
            have e60 := (e56.trans e7).trans e12
            refine ⟨.inl ⟨by decide, by decide⟩, ?_⟩
            by_cases h2 : 2 * rule.length ≤ i
            · rw [if_pos (decide_eq_true (by omega))]
              obtain ⟨gl, gB⟩ := st1 h2
              refine ⟨by simp [sizeLine_eq], fun tq htq => ?_⟩
              refine ⟨_, SqT.of upd_same, rfl, _, _, rfl, _, _, rfl, _, _, rfl, _, _, rfl, rfl, by decide, fun z3 hz3 => ?_⟩
              have e14 : Evl.Ex H6 (upd H6 tq (.tup [V.ref R, V.int (M.missM ns rule i), V.int 1, V.int ((i : Int) + 1 - (rule.length : Int))])) := Evl.Ex.new htq
              have e15 := e14.trans (Evl.Ex.new (o := .lst [V.int 0]) hz3)
              refine ⟨G, _, rfl, .inl (SqL.of (e15 _ _ hg)), _, rfl, _, rfl, 0, _, ⟨rfl, rfl⟩, ?_⟩
              rw [List.length_map, if_neg (by omega)]
              refine rep0 upd_same (by decide) (by decide) fun z4 hz4 => ?_
              have e16 := e15.trans (Evl.Ex.new (o := .lst (List.replicate (0 : Int).toNat (V.int 0))) hz4)
              refine ⟨G, z4, _, _, rfl, rfl, e16 _ _ hg, upd_same, ?_, fun R2 hR2 => ?_⟩
              · rw [List.length_map]
                have : sizeLine = 16777216 := by decide
                show g.length + 0 ≤ sizeLine
                omega
              have e17 := e16.trans (Evl.Ex.new (o := .lst (g.map V.int ++ List.replicate (0 : Int).toNat (V.int 0))) hR2)
              exact ⟨R2, R, g, rule, 1, M.missM ns rule i, ⟨rfl, rfl, rfl, rfl, by rw [gl]; congr 1; omega⟩, e60.trans e17, Evl.fresh_back (e60.trans e16) hR2, by rw [upd_same, show List.replicate (0 : Int).toNat (V.int 0) = [] from rfl, List.append_nil], e17 _ _ (e12 _ _ (e7 _ _ hR3)), gB⟩
            · rw [if_neg (by simpa using (by omega : ¬ 2 * (rule.length : Int) ≤ (i : Int)))]
              obtain ⟨gl, gB⟩ := st2 h2
              refine ⟨by decide, fun z3 hz3 => ?_⟩
              have e15 : Evl.Ex H6 (upd H6 z3 (.lst [V.int 0])) := Evl.Ex.new hz3
              refine ⟨G, _, rfl, .inl (SqL.of (e15 _ _ hg)), _, rfl, 0, _, ⟨rfl, rfl⟩, ?_⟩
              rw [List.length_map, if_neg (by omega)]
              refine rep0 upd_same (by decide) (by decide) fun z4 hz4 => ?_
              have e16 := e15.trans (Evl.Ex.new (o := .lst (List.replicate (0 : Int).toNat (V.int 0))) hz4)
              refine ⟨G, z4, _, _, rfl, rfl, e16 _ _ hg, upd_same, ?_, fun R2 hR2 => ?_⟩
              · rw [List.length_map]
                have : sizeLine = 16777216 := by decide
                show g.length + 0 ≤ sizeLine
                omega
              have e17 := e16.trans (Evl.Ex.new (o := .lst (g.map V.int ++ List.replicate (0 : Int).toNat (V.int 0))) hR2)
              exact ⟨R2, O, g, old, gap + 1, last, ⟨rfl, rfl, by omega, rfl, by omega⟩, e60.trans e17, Evl.fresh_back (e60.trans e16) hR2, by rw [upd_same, show List.replicate (0 : Int).toNat (V.int 0) = [] from rfl, List.append_nil], e17 _ _ (e12 _ _ (e7 _ _ hO3)), gB⟩
    · rintro _ H1 ⟨R, O, rule, old, gap, last, y6, y7, y8, y9, y10, y11, y12, y13, rfl, e4, hR0, hR1, hO1, hB⟩
      rw [List.length_map] at hB
      walk_at "sx"
      exact q R H1 rule old gap last e4 hR0 hR1 hB

end
end FB

/-! # W6 -/
namespace FB
open PySem PySem.Spec PyProof.Rows L2
local macro_rules | `(tactic| walk_at "sx") => `(tactic| simp only [ap_Var, ap_C, ap_Op, ap_Un, ap_I, ap_I0, ap_U, ap_Eq, ap_Ne, ap_If, ap_Test, ap_B, ap_And, ap_Or, ap_Not, ap_AndV, ap_OrV, ap_NotV, ap_Chain, ap_CB, ap_Nil, ap_Cons, ap_Call, ap_Asg, ap_gName, ap_Seq, ap_Next, ap_Cont, ap_Ret, ap_IfS, ap_Par, ap_Par3, ap_Aug, ap_ip, ap_Drop, ap_gTup, ap_gCons, ap_gNil, ap_gSub, ap_Lst, ap_Tup, ap_Yes,
  List.getElem?_cons_zero, List.getElem?_cons_succ, List.set_cons_zero, List.set_cons_succ, Option.some.injEq, V.int.injEq, V.bl.injEq, V.ref.injEq, List.cons.injEq, and_true, true_and, exists_eq_left, exists_eq_left', exists_eq_right, exists_eq_right', exists_and_left, exists_and_right, List.append_nil, if_true, if_false, Bool.false_eq_true, Bool.not_true, Bool.not_false])
local macro_rules | `(tactic| walk_at "ev") => `(tactic| (intro H1 e1 Q1 q1; walk_at "sx"; exact q1 _ (Evl.Ex.refl _)))
section
variable {P : Program} {w : World} {K : PySem.W.Frag} {mg : Str → Option Value} {base : Heap}

def sp_are_counts (K : PySem.W.Frag) : Sp := fun vs H Q _ => ∃ (v : Addr) (least : Int) (ns : List Int), vs = [.ref v, .int least] ∧ H v = some (.tup (ns.map V.int)) ∧ ns.Pairwise (· < ·) ∧ (∀ n ∈ ns, least ≤ n ∧ n ≤ 8) ∧ ns.length < 64 ∧ ∀ H', Evl.Ex H H' → Q (.bl true) H'
theorem asc_uniq : ∀ {l m : List Int}, l.Pairwise (· < ·) → m.Pairwise (· < ·) → (∀ k, k ∈ l ↔ k ∈ m) → l = m
  | [], [], _, _, _ => rfl
  | [], b :: m, _, _, h => absurd ((h b).mpr (List.mem_cons_self ..)) (by simp)
  | a :: l, [], _, _, h => absurd ((h a).mp (List.mem_cons_self ..)) (by simp)
  | a :: l, b :: m, h1, h2, h => by
    obtain ⟨a1, a2⟩ := List.pairwise_cons.mp h1
    obtain ⟨b1, b2⟩ := List.pairwise_cons.mp h2
    have e : a = b := by
      rcases List.mem_cons.mp ((h a).mp (List.mem_cons_self ..)) with e | e
      · exact e
      · have x := b1 a e
        rcases List.mem_cons.mp ((h b).mpr (List.mem_cons_self ..)) with e' | e'
        · exact e'.symm
        · have y := a1 b e'
          omega
    subst e
    rw [asc_uniq a2 b2 fun k => ?_]
    constructor
    · intro hk
      rcases List.mem_cons.mp ((h k).mp (List.mem_cons.mpr (.inr hk))) with e | e
      · have := a1 k hk; omega
      · exact e
    · intro hk
      rcases List.mem_cons.mp ((h k).mpr (List.mem_cons.mpr (.inr hk))) with e | e
      · have := b1 k hk; omega
      · exact e
theorem ok_are_counts (T : Txt K mg) : FnOk P w K mg base CX0 2 T.f_are_counts T.d_are_counts ["value", "least"] (sp_are_counts K) := by
  have G_is_in : FnOk P w K mg base CX0 1 T.f_is_in T.d_is_in ["value", "least", "most"] sp_is_in := ok_is_in T
  refine T.F_are_counts.ok sc_are_counts (fun vs H Q E h => ?_) (fun cdv A outer s H vs Q E hr h => ?_)
  · obtain ⟨v, least, ns, rfl, _⟩ := h
    rfl
  · obtain ⟨v, least, ns, rfl, hv, hasc, hall, h64, q⟩ := h
    refine ⟨_, (pss_cons (ps_if (PW.pt (pw_or (pt_not (pt_val (pe_callB (isiS K rfl) (by rfl) T.z_isinstance (by decide +kernel) (pa_cons (pv 0) (pa_cons (pe_bltn (v := .ty "tuple") (by rfl) T.z_tuple (by decide +kernel) rfl) pa_nil))))) (pw_or1 (pt_cmpR (neD K hr.units rfl) (pe_lc (own := [("one", 2)]) (by rfl) sc_are_counts.nd (piT K rfl (pv 0)) (blkOk_by (N := N_are_counts) (sc := defScope s_are_counts) (by decide +kernel)) (fun _ _ _ _ _ => (pg_name (i := 2) sc_are_counts.nd rfl (Or.inl rfl))) (fun _ _ _ _ _ => (pts_one (pt_not (pt_val (pe_call G_is_in (hr.mono (by decide)) (by rfl) T.g_is_in T.F_is_in.kp T.b_is_in .nil pass0 (pa_cons (pv 2) (pa_cons (pv 1) (pa_cons pe_int pa_nil)))))))) (fun _ _ _ _ _ => (pv 2))) (pe_lst pa_nil) (nomark _))))) (pss_one (ps_ret pe_bl)) pss_nil)
      (pss_one (ps_ret (pe_cmpR (eqD K hr.units rfl) (pe_callTy (listS K rfl) (by rfl) T.z_list (by decide +kernel) (pa_cons (pv 0) pa_nil)) (pe_callB (cr_sortedSet (by rfl)) (by rfl) T.z_sorted (by decide +kernel) (pa_cons (pe_callTy (cr_setT K w rfl rfl (by rfl)) (by rfl) T.z_set (by decide +kernel) (pa_cons (pv 0) pa_nil)) pa_nil)) (nomark _))))), ?_⟩
    rw [show start N_are_counts [V.ref v, V.int least] = [some (V.ref v), some (V.int least), none] from rfl]
    walk_at "sx"
    refine isi (.base (.tup hv)) (b := true) (by decide +kernel) ?_
    walk_at "sx"
    refine lcT (K := K) (a := v) (xs := ns.map V.int) (fun _ => false) (fun _ => .non) (by walk_at "ev") (SqT.of hv) (by rw [List.length_map]; omega) (fun _ => rfl) (fun i x H1 e1 hx => ?_) (fun i x H1 e1 hx hf => by cases hf) H (Evl.Ex.refl H) _ fun p H1 hp e1 h1 => ?_
    · rw [List.getElem?_map] at hx
      obtain ⟨n, hn, rfl⟩ : ∃ n, ns[i]? = some n ∧ x = V.int n := by
        cases hq : ns[i]? with
        | none => rw [hq] at hx; cases hx
        | some u => rw [hq] at hx; exact ⟨u, rfl, (Option.some.inj hx).symm⟩
      have hb := hall n (List.mem_of_getElem? hn)
      intro H2 e2 Q2 q2
      show tNot _ [some (V.ref v), some (V.int least), some (V.int n)] H2 Q2
      walk_at "sx"
      refine ⟨n, least, 8, rfl, ⟨_, rfl, ?_⟩⟩
      rw [decide_eq_true (show least ≤ n ∧ n ≤ 8 from hb)]
      exact q2 _ (Evl.Ex.refl _)
    · rw [given_none] at h1
      refine ⟨by decide, fun p2 hp2 => ?_⟩
      have e2 := e1.trans (Evl.Ex.new (o := .lst []) hp2)
      refine neD_ints (ns := []) (ms := []) (SqL.of (by rw [upd_ne (ne_of_none h1 hp2)]; exact h1)) (SqL.of upd_same) ⟨_, rfl, ?_⟩
      rw [if_neg (by decide)]
      refine ⟨v, _, rfl, .inr (SqT.of (e2 _ _ hv)), fun l hl => ?_⟩
      have e3 := e2.trans (Evl.Ex.new (o := .lst (ns.map V.int)) hl)
      refine ⟨v, ns, rfl, SqT.of (e3 _ _ hv), by omega, fun sa c hc hsa => ?_⟩
      have e4 := e3.trans (Evl.Ex.new (o := SetO w sa (fun j => decide (j ∈ ns)) c) hsa)
      refine ⟨sa, _, c, rfl, upd_same, by omega, fun ms l2 hms hmem hlen hl2 => ?_⟩
      have e5 := e4.trans (Evl.Ex.new (o := .lst (ms.map V.int)) hl2)
      have em : ns = ms := asc_uniq hasc hms fun k => by rw [hmem, decide_eq_true_eq]
      subst em
      have hne : l ≠ sa := ne_of_none upd_same hsa
      have hlk : ∀ o, (upd (upd (upd H1 p2 (HO.lst [])) l (HO.lst (ns.map V.int))) sa o) l = some (.lst (ns.map V.int)) := fun o => by rw [upd_ne hne, upd_same]
      refine eqD_ints (SqL.of (by rw [upd_ne (ne_of_none (hlk _) hl2)]; exact hlk _)) (SqL.of upd_same) ?_
      rw [decide_eq_true rfl]
      exact q _ e5
/-! ### is_rule, need_rule -/
def RuleH (H : Hp) (r : Addr) (bs ss : List Int) (n : Int) : Prop := ∃ b s : Addr, H r = some (.tup [.ref b, .ref s, .int n]) ∧ H b = some (.tup (bs.map V.int)) ∧ H s = some (.tup (ss.map V.int))
theorem RuleH.ex {H H' : Hp} {r : Addr} {bs ss : List Int} {n : Int} (e : Evl.Ex H H') (h : RuleH H r bs ss n) : RuleH H' r bs ss n :=
  let ⟨b, s, h1, h2, h3⟩ := h
  ⟨b, s, e _ _ h1, e _ _ h2, e _ _ h3⟩
theorem RuleH.at_ {K : PySem.W.Frag} {H : Hp} {r : Addr} {bs ss : List Int} {n : Int} (h : RuleH H r bs ss n) : RuleAt K H r bs ss n :=
  let ⟨b, s, h1, h2, h3⟩ := h
  ⟨b, s, SqT.of h1, SqT.of h2, SqT.of h3⟩
/-- what a rule is -/
def IsRule (bs ss : List Int) (n : Int) : Prop := bs.Pairwise (· < ·) ∧ (∀ x ∈ bs, 1 ≤ x ∧ x ≤ 8) ∧ ss.Pairwise (· < ·) ∧ (∀ x ∈ ss, 0 ≤ x ∧ x ≤ 8) ∧ 2 ≤ n ∧ n ≤ 6 ∧ bs.length < 64 ∧ ss.length < 64
def sp_is_rule : Sp := fun vs H Q _ => ∃ (r : Addr) (bs ss : List Int) (n : Int), vs = [.ref r] ∧ RuleH H r bs ss n ∧ IsRule bs ss n ∧ ∀ H', Evl.Ex H H' → Q (.bl true) H'
theorem ok_is_rule (T : Txt K mg) : FnOk P w K mg base CX0 3 T.f_is_rule T.d_is_rule ["rule"] sp_is_rule := by
  have G_is_in : FnOk P w K mg base CX0 1 T.f_is_in T.d_is_in ["value", "least", "most"] sp_is_in := ok_is_in T
  have G_are_counts : FnOk P w K mg base CX0 2 T.f_are_counts T.d_are_counts ["value", "least"] (sp_are_counts K) := ok_are_counts T
  refine T.F_is_rule.ok sc_is_rule (fun vs H Q E h => ?_) (fun cdv A outer s H vs Q E hr h => ?_)
  · obtain ⟨r, bs, ss, n, rfl, _⟩ := h
    rfl
  · obtain ⟨r, bs, ss, n, rfl, hR, ⟨i1, i2, i3, i4, i5, i6, i7, i8⟩, q⟩ := h
    refine ⟨_, (pss_cons (ps_if (PW.pt (pw_or (pt_not (pt_val (pe_callB (isiS K rfl) (by rfl) T.z_isinstance (by decide +kernel) (pa_cons (pv 0) (pa_cons (pe_bltn (v := .ty "tuple") (by rfl) T.z_tuple (by decide +kernel) rfl) pa_nil))))) (pw_or1 (pt_cmpR op_ne (pe_callB (lenS K rfl) (by rfl) T.z_len (by decide +kernel) (pa_cons (pv 0) pa_nil)) pe_int (nomark _))))) (pss_one (ps_ret pe_bl)) pss_nil)
      (pss_one (ps_ret (pe_and (pe_call G_are_counts (hr.mono (by decide)) (by rfl) T.g_are_counts T.F_are_counts.kp T.b_are_counts .nil pass0 (pa_cons (pe_ix (ixt K rfl) (pv 0) pe_int (fun _ _ => rfl)) (pa_cons pe_int pa_nil))) (pe_and (pe_call G_are_counts (hr.mono (by decide)) (by rfl) T.g_are_counts T.F_are_counts.kp T.b_are_counts .nil pass0 (pa_cons (pe_ix (ixt K rfl) (pv 0) pe_int (fun _ _ => rfl)) (pa_cons pe_int pa_nil))) (pe_one (pe_call G_is_in (hr.mono (by decide)) (by rfl) T.g_is_in T.F_is_in.kp T.b_is_in .nil pass0 (pa_cons (pe_ix (ixt K rfl) (pv 0) pe_int (fun _ _ => rfl)) (pa_cons pe_int (pa_cons (pe_glob (v := .int 6) (by rfl) T.c_MOST_STATES ⟨_, rfl⟩) pa_nil)))))))))), ?_⟩
    rw [show start N_is_rule [V.ref r] = [some (V.ref r)] from rfl]
    obtain ⟨ba, sa, r1, r2, r3⟩ := id hR
    walk_at "sx"
    refine isi (.base (.tup r1)) (b := true) (by decide +kernel) ?_
    walk_at "sx"
    refine ⟨r, _, rfl, .inr (SqT.of r1), rfl, ?_⟩
    rw [if_neg (by simp)]
    refine ⟨r, _, 0, _, rfl, rfl, SqT.of r1, atI_nat (j := 0) rfl, ba, 1, bs, rfl, r2, i1, i2, i7, fun H1 e1 => ⟨true, rfl, ?_⟩⟩
    rw [if_pos rfl]
    refine ⟨r, _, 1, _, rfl, rfl, SqT.of (e1 _ _ r1), atI_nat (j := 1) rfl, sa, 0, ss, rfl, e1 _ _ r3, i3, i4, i8, fun H2 e2 => ⟨true, rfl, ?_⟩⟩
    rw [if_pos rfl]
    refine ⟨r, _, 2, _, rfl, rfl, SqT.of (e2 _ _ (e1 _ _ r1)), atI_nat (j := 2) rfl, n, 2, 6, rfl, ?_⟩
    rw [decide_eq_true (show 2 ≤ n ∧ n ≤ 6 from ⟨i5, i6⟩)]
    exact q _ (e1.trans e2)
def sp_need_rule : Sp := fun vs H Q _ => ∃ (r : Addr) (bs ss : List Int) (n : Int), vs = [.ref r] ∧ RuleH H r bs ss n ∧ IsRule bs ss n ∧ ∀ H', Evl.Ex H H' → Q .non H'
theorem ok_need_rule (T : Txt K mg) : FnOk P w K mg base CX0 4 T.f_need_rule T.d_need_rule ["rule"] sp_need_rule := by
  have G_is_rule : FnOk P w K mg base CX0 3 T.f_is_rule T.d_is_rule ["rule"] sp_is_rule := ok_is_rule T
  refine T.F_need_rule.ok sc_need_rule (fun vs H Q E h => ?_) (fun cdv A outer s H vs Q E hr h => ?_)
  · obtain ⟨r, bs, ss, n, rfl, _⟩ := h
    rfl
  · obtain ⟨r, bs, ss, n, rfl, hR, hI, q⟩ := h
    refine ⟨_, (pss_one (ps_if (pt_not (pt_val (pe_call G_is_rule (hr.mono (by decide)) (by rfl) T.g_is_rule T.F_is_rule.kp T.b_is_rule .nil pass0 (pa_cons (pv 0) pa_nil)))) (pss_one ps_never) pss_nil)), ?_⟩
    rw [show start N_need_rule [V.ref r] = [some (V.ref r)] from rfl]
    walk_at "sx"
    refine ⟨r, bs, ss, n, rfl, hR, hI, fun H1 e1 => ⟨true, rfl, ?_⟩⟩
    rw [if_neg (by decide)]
    exact q _ e1
def sp_need_strip : Sp := fun vs H Q _ => ∃ (r : Addr) (bs ss : List Int) (n h wd m : Int), vs = [.ref r, .int h, .int wd, .int m] ∧ RuleH H r bs ss n ∧ IsRule bs ss n ∧ (1 ≤ h ∧ h ≤ 3) ∧ (0 ≤ wd ∧ wd ≤ m) ∧ ∀ H', Evl.Ex H H' → Q .non H'
theorem ok_need_strip (T : Txt K mg) : FnOk P w K mg base CX0 5 T.f_need_strip T.d_need_strip ["rule", "high", "wide", "most"] sp_need_strip := by
  have G_is_in : FnOk P w K mg base CX0 1 T.f_is_in T.d_is_in ["value", "least", "most"] sp_is_in := ok_is_in T
  have G_need_rule : FnOk P w K mg base CX0 4 T.f_need_rule T.d_need_rule ["rule"] sp_need_rule := ok_need_rule T
  refine T.F_need_strip.ok sc_need_strip (fun vs H Q E h => ?_) (fun cdv A outer s H vs Q E hr h => ?_)
  · obtain ⟨r, bs, ss, n, h, wd, m, rfl, _⟩ := h
    rfl
  · obtain ⟨r, bs, ss, n, h, wd, m, rfl, hR, hI, hh, hw, q⟩ := h
    refine ⟨_, (pss_cons (ps_expr (pe_call G_need_rule (hr.mono (by decide)) (by rfl) T.g_need_rule T.F_need_rule.kp T.b_need_rule .nil pass0 (pa_cons (pv 0) pa_nil)))
      (pss_one (ps_if (PW.pt (pw_or (pt_not (pt_val (pe_call G_is_in (hr.mono (by decide)) (by rfl) T.g_is_in T.F_is_in.kp T.b_is_in .nil pass0 (pa_cons (pv 1) (pa_cons pe_int (pa_cons (pe_glob (v := .int 3) (by rfl) T.c_MOST_HIGH ⟨_, rfl⟩) pa_nil)))))) (pw_or1 (pt_not (pt_val (pe_call G_is_in (hr.mono (by decide)) (by rfl) T.g_is_in T.F_is_in.kp T.b_is_in .nil pass0 (pa_cons (pv 2) (pa_cons pe_int (pa_cons (pv 3) pa_nil))))))))) (pss_one ps_never) pss_nil))), ?_⟩
    rw [show start N_need_strip [V.ref r, V.int h, V.int wd, V.int m] = [some (V.ref r), some (V.int h), some (V.int wd), some (V.int m)] from rfl]
    walk_at "sx"
    refine ⟨r, bs, ss, n, rfl, hR, hI, fun H1 e1 => ?_⟩
    walk_at "sx"
    refine ⟨h, 1, 3, rfl, _, rfl, ?_⟩
    rw [decide_eq_true (show 1 ≤ h ∧ h ≤ 3 from hh), if_neg (by decide)]
    refine ⟨wd, 0, m, rfl, _, rfl, ?_⟩
    rw [decide_eq_true (show 0 ≤ wd ∧ wd ≤ m from hw), if_neg (by decide)]
    exact q _ e1

end
end FB

/-! # W7 -/
namespace FB
open PySem PySem.Spec PyProof.Rows L2
local macro_rules | `(tactic| walk_at "sx") => `(tactic| simp only [ap_Var, ap_C, ap_Op, ap_Un, ap_I, ap_I0, ap_U, ap_Eq, ap_Ne, ap_If, ap_Test, ap_B, ap_And, ap_Or, ap_Not, ap_AndV, ap_OrV, ap_NotV, ap_Chain, ap_CB, ap_Nil, ap_Cons, ap_Call, ap_Asg, ap_gName, ap_Seq, ap_Next, ap_Cont, ap_Ret, ap_IfS, ap_Par, ap_Par3, ap_Aug, ap_ip, ap_Drop, ap_gTup, ap_gCons, ap_gNil, ap_gSub, ap_Lst, ap_Tup, ap_Yes,
  List.getElem?_cons_zero, List.getElem?_cons_succ, List.set_cons_zero, List.set_cons_succ, Option.some.injEq, V.int.injEq, V.bl.injEq, V.ref.injEq, List.cons.injEq, and_true, true_and, exists_eq_left, exists_eq_left', exists_eq_right, exists_eq_right', exists_and_left, exists_and_right, List.append_nil, if_true, if_false, Bool.false_eq_true, Bool.not_true, Bool.not_false])
local macro_rules | `(tactic| walk_at "ev") => `(tactic| (intro H1 e1 Q1 q1; walk_at "sx"; exact q1 _ (Evl.Ex.refl _)))
section
variable {P : Program} {w : World} {K : PySem.W.Frag} {mg : Str → Option Value} {base : Heap}
/-! ### ways_on -/
def kk (a b : Nat) : List L2.Key := [Sum.inl (a : Int), Sum.inl (b : Int)]
theorem kk_inj {a b c d : Nat} (h : kk a b = kk c d) : a = c ∧ b = d := by
  unfold kk at h
  injection h with h1 h2
  injection h2 with h3 _
  have := Sum.inl.inj h1
  have := Sum.inl.inj h3
  omega
theorem ap_DPut {td ty tv : TE} {D : Ends} {σ : L2.St} {H : Hp} : sDPut td ty tv D σ H = tv σ H fun v H1 => td σ H1 fun x H2 => ty σ H2 fun y H3 => ∃ a H4, x = .ref a ∧ DPut H3 a y v H4 ∧ D.nx σ H4 := rfl
def wayL (bs ss : List Int) (h : Int) (B a b : Nat) : List Int := ((List.range B).filter fun (c : Nat) => restsM bs ss h a b c).map fun (c : Nat) => (c : Int)
def WaysAt (H : Hp) (wa : Addr) (bs ss : List Int) (h : Int) (B : Nat) : Prop := ∃ kvs, H wa = some (.dT kvs) ∧ ∀ a b, a < B → b < B → ∃ l, valV kvs (kk a b) = some (.ref l) ∧ H l = some (.lst ((wayL bs ss h B a b).map V.int))
theorem WaysAt.ex {H H' : Hp} {wa : Addr} {bs ss : List Int} {h : Int} {B : Nat} (e : Evl.Ex H H') (x : WaysAt H wa bs ss h B) : WaysAt H' wa bs ss h B :=
  let ⟨kvs, h1, h2⟩ := x
  ⟨kvs, e _ _ h1, fun a b ha hb => let ⟨l, h3, h4⟩ := h2 a b ha hb; ⟨l, h3, e _ _ h4⟩⟩
/-- the number of columns of a height -/
def colsOf (h : Int) : Nat := 2 ^ h.toNat
theorem cols_le {h : Int} (hh : 1 ≤ h ∧ h ≤ 3) : 2 ≤ colsOf h ∧ colsOf h ≤ 8 := by
  have : h = 1 ∨ h = 2 ∨ h = 3 := by omega
  rcases this with rfl | rfl | rfl <;> decide
def natL (B : Nat) : List Int := (List.range B).map fun (i : Nat) => (i : Int)
theorem rgV_cols (B : Nat) : rgV 0 (B : Int) = (natL B).map V.int := by
  unfold rgV natL
  rw [List.map_map, Int.sub_zero, Int.toNat_natCast]
  exact List.map_congr_left fun i _ => by show V.int (0 + (i : Int)) = V.int (i : Int); rw [Int.zero_add]
theorem ap_LstRg {te : L2.St → Hp → (Int → Int → Hp → Prop) → Prop} {σ : L2.St} {H : Hp} {Q : VK} : tLstRg te σ H Q = te σ H fun a b H1 => RgOk a b ∧ ∀ q, H1 q = none → Q (.ref q) (upd H1 q (.lst (rgV a b))) := rfl
theorem ap_Rg1 {ta : TE} {σ : L2.St} {H : Hp} {Q : Int → Int → Hp → Prop} : tRg1 ta σ H Q = ta σ H fun x H1 => ∃ n, x = .int n ∧ Q 0 n H1 := rfl
theorem ap_DNewT {σ : L2.St} {H : Hp} {Q : VK} : tDNewT σ H Q = ∀ p, H p = none → Q (.ref p) (upd H p (.dT [])) := rfl
/-- what the loops keep: the pairs in Z have their ways -/
def WUp (H H' : Hp) (cl F : Addr) (bs ss : List Int) (h : Int) (B : Nat) (Z : Nat → Nat → Prop) (m : Nat) : Prop := Evl.Ex H H' ∧ H' cl = some (.lst ((natL B).map V.int)) ∧ ∃ kvs, H' F = some (.dT kvs) ∧ kvs.length ≤ m ∧
  ∀ a b, a < B → b < B → Z a b → ∃ l, valV kvs (kk a b) = some (.ref l) ∧ H' l = some (.lst ((wayL bs ss h B a b).map V.int))
def sp_ways (K : PySem.W.Frag) : Sp := fun vs H Q _ => ∃ (r : Addr) (bs ss : List Int) (n h : Int), vs = [.ref r, .int h] ∧ RuleAt K H r bs ss n ∧ (1 ≤ h ∧ h ≤ 3) ∧ ∀ p H', Evl.Ex H H' → H p = none → WaysAt H' p bs ss h (colsOf h) → Q (.ref p) H'
theorem ok_ways (T : Txt K mg) : FnOk P w K mg base CX0 2 T.f_ways_on T.d_ways_on ["rule", "high"] (sp_ways K) := by
  have G_rests : FnOk P w K mg base CX0 1 T.f_rests T.d_rests ["rule", "columns", "high"] (sp_rests K) := ok_rests T
  refine T.F_ways_on.ok sc_ways_on (fun vs H Q E h => ?_) (fun cdv A outer s H vs Q E hr h => ?_)
  · obtain ⟨r, bs, ss, n, h, rfl, _⟩ := h
    rfl
  · obtain ⟨r, bs, ss, n, h, rfl, hR, hh, q⟩ := h
    have hu := hu_of hr
    refine ⟨_, (pss_cons (ps_par (i := 2) (j := 3) (by rfl) sc_ways_on.nd rfl rfl (by decide) rfl rfl (pa_cons (pe_listRg (by rfl) (by rfl) T.z_list (prg_1 (by rfl) T.z_range (pe_op op_shl pe_int (pv 1)))) (pa_cons pe_dnewT pa_nil)) (by rfl))
      (pss_cons (ps_for PassesOwn.never rfl (piL K rfl (pv 2)) (pg_name (i := 4) sc_ways_on.nd rfl (Or.inr rfl)) (pss_one (ps_for PassesOwn.never rfl (piL K rfl (pv 2)) (pg_name (i := 5) sc_ways_on.nd rfl (Or.inr rfl)) (pss_one (ps_dput hu (pv 3) (pe_tup (pa_cons (pv 4) (pa_cons (pv 5) pa_nil))) (pe_lc (own := [("three", 6)]) (by rfl) sc_ways_on.nd (piL K rfl (pv 2)) (blkOk_by (N := N_ways_on) (sc := defScope s_ways_on) (by decide +kernel)) (fun _ _ _ _ _ => (pg_name (i := 6) sc_ways_on.nd rfl (Or.inl rfl))) (fun _ _ _ _ _ => (pts_one (pt_val (pe_call G_rests (hr.mono (by decide)) (by rfl) T.g_rests T.F_rests.kp T.b_rests .nil pass0 (pa_cons (pv 0) (pa_cons (pe_tup (pa_cons (pv 4) (pa_cons (pv 5) (pa_cons (pv 6) pa_nil)))) (pa_cons (pv 1) pa_nil))))))) (fun _ _ _ _ _ => (pv 6))) (by rfl))))))
      (pss_one (ps_ret (pv 3))))), ?_⟩
    rw [show start N_ways_on [V.ref r, V.int h] = [some (V.ref r), some (V.int h), none, none, none, none, none] from rfl]
    have hB := cols_le hh
    have hpw : (1 : Int) * 2 ^ h.toNat = (colsOf h : Int) := by
      unfold colsOf
      rw [Int.one_mul]
      exact (Int.natCast_pow 2 h.toNat).symm
    generalize colsOf h = B at hB hpw q
    walk_at "sx"
    simp only [ap_LstRg, ap_Rg1, ap_DNewT]
    walk_at "sx"
    refine ⟨⟨by omega, by omega, by decide⟩, ?_⟩
    rw [hpw]
    refine ⟨RgOk.of_le (by omega) (by omega) (by omega) (by omega), fun cl hcl F hF => ?_⟩
    rw [rgV_cols] at hF ⊢
    have e1 : Evl.Ex H (upd H cl (.lst ((natL B).map V.int))) := Evl.Ex.new hcl
    have hF0 := Evl.fresh_back e1 hF
    have e2 := e1.trans (Evl.Ex.new (o := .dT []) hF)
    have hc2 : (upd (upd H cl (.lst ((natL B).map V.int))) F (.dT [])) cl = some (.lst ((natL B).map V.int)) := by
      rw [upd_ne (ne_of_none upd_same hF), upd_same]
    have hF2 : (upd (upd H cl (.lst ((natL B).map V.int))) F (.dT [])) F = some (.dT []) := upd_same
    generalize (upd (upd H cl (.lst ((natL B).map V.int))) F (.dT [])) = H2 at e2 hc2 hF2 ⊢
    refine ⟨_, _, ⟨rfl, rfl⟩, ?_⟩
    have hclF : cl ≠ F := ne_of hc2 hF2 (by intro z; cases z)
    have hcols : SqL K H2 cl ((natL B).map V.int) := SqL.of hc2
    have hlen : (natL B).length = B := by unfold natL; rw [List.length_map, List.length_range]
    have hget : ∀ (i : Nat) (x : V), ((natL B).map V.int)[i]? = some x → i < B ∧ x = V.int (i : Int) := fun i x hx => by
      have hi : i < B := by
        have := (List.getElem?_eq_some_iff.mp hx).1
        rwa [List.length_map, hlen] at this
      refine ⟨hi, ?_⟩
      unfold natL at hx
      rw [List.getElem?_map, List.getElem?_map, List.getElem?_range hi] at hx
      exact (Option.some.inj hx).symm
    refine Evl.s_forL (a := cl) (xs := (natL B).map V.int) (by walk_at "ev") hcols (fun i σ H' => ∃ y4 y5, σ = [some (V.ref r), some (V.int h), some (V.ref cl), some (V.ref F), y4, y5, none] ∧ WUp H H' cl F bs ss h B (fun a b => a < i) (i * B)) ?_ (fun i σ' H' _ ⟨_, _, _, hW⟩ => SqL.of hW.2.1) ?_ ?_
    · intro H3 e3
      exact ⟨none, none, rfl, e2.trans e3, e3 _ _ hc2, [], e3 _ _ hF2, by simp, fun a b _ _ hz => absurd hz (Nat.not_lt_zero _)⟩
    · rintro i x _ H3 hx ⟨y4, y5, rfl, hW⟩
      obtain ⟨hi, rfl⟩ := hget i x hx
      rw [ap_gName]
      simp only [List.set_cons_zero, List.set_cons_succ]
      refine Evl.s_forL (a := cl) (xs := (natL B).map V.int) (by walk_at "ev") (SqL.of hW.2.1) (fun j σ H' => ∃ y5, σ = [some (V.ref r), some (V.int h), some (V.ref cl), some (V.ref F), some (V.int (i : Int)), y5, none] ∧ WUp H H' cl F bs ss h B (fun a b => a < i ∨ (a = i ∧ b < j)) (i * B + j)) ?_ (fun i σ' H' _ ⟨_, _, hW⟩ => SqL.of hW.2.1) ?_ ?_
      · intro H4 e4
        obtain ⟨w1, w2, kvs, w3, w4, w5⟩ := hW
        refine ⟨_, rfl, w1.trans e4, e4 _ _ w2, kvs, e4 _ _ w3, w4, fun a b ha hb hz => ?_⟩
        obtain ⟨l, l1, l2⟩ := w5 a b ha hb (by omega)
        exact ⟨l, l1, e4 _ _ l2⟩
      · rintro j x _ H4 hx ⟨y5, rfl, hW⟩
        obtain ⟨hj, rfl⟩ := hget j x hx
        rw [ap_gName]
        simp only [List.set_cons_zero, List.set_cons_succ]
        obtain ⟨w1, w2, kvs, w3, w4, w5⟩ := hW
        rw [ap_DPut]
        have hlc := Evl.el_lcL (K := K) (σ := [some (V.ref r), some (V.int h), some (V.ref cl), some (V.ref F), some (V.int (i : Int)), some (V.int (j : Int)), none]) (H := H4) (a := cl) (xs := (natL B).map V.int) (j := 6) (vs := [6]) (tl := tVar 2)
          (t := tB (tCall (sp_rests K) [] E0 (tCons (tVar 0) (tCons (tTup (tCons (tVar 4) (tCons (tVar 5) (tCons (tVar 6) tNil)))) (tCons (tVar 1) tNil))))) (te := tVar 6)
          (fun (c : Nat) => restsM bs ss h i j c) (fun (c : Nat) => V.int (c : Int)) (by walk_at "ev") (SqL.of w2) (by rw [List.length_map, hlen]; omega) (fun _ => rfl) (fun c x H5 e5 hx => ?_) (fun c x H5 e5 hx _ => ?_)
        · refine hlc H4 (Evl.Ex.refl _) _ fun l H5 hl e5 h5 => ?_
          rw [List.length_map, hlen] at h5
          walk_at "sx"
          refine ⟨by simp [sizeLine_eq], fun tp htp => ?_⟩
          have e6 := e5.trans (Evl.Ex.new (o := .tup [V.int (i : Int), V.int (j : Int)]) htp)
          have hF6 := e6 _ _ w3
          have hiB : i * B ≤ 7 * 8 := Nat.mul_le_mul (by omega) (by omega)
          have hsz : kvs.length < sizeLine := by
            have : sizeLine = 16777216 := by decide
            omega
          refine ⟨_, DPut.t (k := kk i j) hF6 upd_same hsz, ?_⟩
          have hl6 : (upd H5 tp (.tup [V.int (i : Int), V.int (j : Int)])) l = some (.lst ((wayL bs ss h B i j).map V.int)) := by
            rw [upd_ne (ne_of_none h5 htp), h5]
            unfold wayL Evl.given
            rw [List.map_map]
            rfl
          have hlF : l ≠ F := ne_of hl6 hF6 (by intro z; cases z)
          refine ⟨(w1.trans e6).mut hF0, ?_, _, upd_same, ?_, fun a b ha hb hz => ?_⟩
          · rw [upd_ne hclF]
            exact e6 _ _ w2
          · have := length_putK kvs (kk i j) (V.ref l)
            omega
          · rw [valV_put]
            by_cases he : kk a b = kk i j
            · obtain ⟨rfl, rfl⟩ := kk_inj he
              rw [if_pos rfl]
              exact ⟨l, rfl, by rw [upd_ne hlF]; exact hl6⟩
            · rw [if_neg he]
              obtain ⟨l2, l3, l4⟩ := w5 a b ha hb (by
                rcases hz with z | ⟨z1, z2⟩
                · exact .inl z
                · refine .inr ⟨z1, ?_⟩
                  rcases Nat.lt_or_ge b j with z3 | z3
                  · exact z3
                  · exact absurd (by rw [z1, show b = j by omega]) he)
              refine ⟨l2, l3, ?_⟩
              have l5 := e6 _ _ l4
              rw [upd_ne (ne_of l5 hF6 (by intro z; cases z))]
              exact l5
        · obtain ⟨hc, rfl⟩ := hget c x hx
          intro H6 e6 Q6 q6
          show tB _ [some (V.ref r), some (V.int h), some (V.ref cl), some (V.ref F), some (V.int (i : Int)), some (V.int (j : Int)), some (V.int (c : Int))] H6 Q6
          walk_at "sx"
          refine ⟨by simp [sizeLine_eq], fun tp htp => ?_⟩
          have e7 := Evl.Ex.new (o := .tup [V.int (i : Int), V.int (j : Int), V.int (c : Int)]) htp
          refine ⟨r, tp, bs, ss, n, h, i, j, c, rfl, hR.ex (((w1.trans e5).trans e6).trans e7), SqT.of upd_same, hh, ⟨by omega, by omega, by omega⟩, fun H7 e8 => ⟨_, rfl, q6 _ (e7.trans e8)⟩⟩
        · obtain ⟨hc, rfl⟩ := hget c x hx
          intro H6 e6 Q6 q6
          show tVar 6 [some (V.ref r), some (V.int h), some (V.ref cl), some (V.ref F), some (V.int (i : Int)), some (V.int (j : Int)), some (V.int (c : Int))] H6 Q6
          walk_at "sx"
          exact q6 _ (Evl.Ex.refl _)
      · rintro _ H4 ⟨y5, rfl, w1, w2, kvs, w3, w4, w5⟩
        rw [List.length_map, hlen] at w4 w5
        refine ⟨_, _, rfl, w1, w2, kvs, w3, by rw [Nat.succ_mul]; exact w4, fun a b ha hb hz => w5 a b ha hb (by omega)⟩
    · rintro _ H3 ⟨y4, y5, rfl, w1, w2, kvs, w3, w4, w5⟩
      rw [List.length_map, hlen] at w5
      walk_at "sx"
      exact q F H3 w1 hF0 ⟨kvs, w3, fun a b ha hb => w5 a b ha hb ha⟩

end
end FB

/-! # W8 -/
namespace FB
open PySem PySem.Spec PyProof.Rows L2
local macro_rules | `(tactic| walk_at "sx") => `(tactic| simp only [ap_Var, ap_C, ap_Op, ap_Un, ap_I, ap_I0, ap_U, ap_Eq, ap_Ne, ap_If, ap_Test, ap_B, ap_And, ap_Or, ap_Not, ap_AndV, ap_OrV, ap_NotV, ap_Chain, ap_CB, ap_Nil, ap_Cons, ap_Call, ap_Asg, ap_gName, ap_Seq, ap_Next, ap_Cont, ap_Ret, ap_IfS, ap_Par, ap_Par3, ap_Aug, ap_ip, ap_Drop, ap_gTup, ap_gCons, ap_gNil, ap_gSub, ap_Lst, ap_Tup, ap_Yes,
  List.getElem?_cons_zero, List.getElem?_cons_succ, List.set_cons_zero, List.set_cons_succ, Option.some.injEq, V.int.injEq, V.bl.injEq, V.ref.injEq, List.cons.injEq, and_true, true_and, exists_eq_left, exists_eq_left', exists_eq_right, exists_eq_right', exists_and_left, exists_and_right, List.append_nil, if_true, if_false, Bool.false_eq_true, Bool.not_true, Bool.not_false])
local macro_rules | `(tactic| walk_at "ev") => `(tactic| (intro H1 e1 Q1 q1; walk_at "sx"; exact q1 _ (Evl.Ex.refl _)))
section
variable {P : Program} {w : World} {K : PySem.W.Frag} {mg : Str → Option Value} {base : Heap}
/-! ### tables in the heap -/
def encL (ps : List (Nat × Nat)) (C : Nat → Nat → Int) : List (List L2.Key × V) := ps.map fun p => (kk p.1 p.2, V.int (C p.1 p.2))
theorem valV_enc (C : Nat → Nat → Int) (a b : Nat) : ∀ ps : List (Nat × Nat), valV (encL ps C) (kk a b) = if (a, b) ∈ ps then some (.int (C a b)) else none
  | [] => rfl
  | (x, y) :: r => by
    have ih := valV_enc C a b r
    show valV ((kk x y, V.int (C x y)) :: encL r C) (kk a b) = _
    by_cases e : (a, b) = (x, y)
    · cases e
      rw [valV_pos rfl, if_pos (List.mem_cons_self ..)]
    · have e2 : ¬ kk x y = kk a b := fun z => e (by obtain ⟨h1, h2⟩ := kk_inj z; rw [h1, h2])
      rw [valV_neg e2, ih]
      by_cases hm : (a, b) ∈ r
      · rw [if_pos hm, if_pos (List.mem_cons_of_mem _ hm)]
      · rw [if_neg hm, if_neg fun z => (List.mem_cons.mp z).elim e hm]
theorem putK_enc (ps : List (Nat × Nat)) (C : Nat → Nat → Int) (a b : Nat) (z : Int) : putK (encL ps C) (kk a b) (.int z) = encL (M.putP ps (a, b)) (M.put2 C a b z) := by
  have hany : ((encL ps C).any fun kv => decide (kv.1 = kk a b)) = decide ((a, b) ∈ ps) := by
    rw [valV_any, valV_enc]
    by_cases hm : (a, b) ∈ ps
    · rw [if_pos hm, decide_eq_true hm]; rfl
    · rw [if_neg hm, decide_eq_false hm]; rfl
  unfold putK M.putP
  rw [hany]
  by_cases hm : (a, b) ∈ ps
  · rw [if_pos (decide_eq_true hm), if_pos hm]
    unfold encL
    rw [List.map_map]
    refine List.map_congr_left fun p _ => ?_
    show (if kk p.1 p.2 = kk a b then (kk p.1 p.2, V.int z) else (kk p.1 p.2, V.int (C p.1 p.2))) = (kk p.1 p.2, V.int (M.put2 C a b z p.1 p.2))
    unfold M.put2
    by_cases e : p.1 = a ∧ p.2 = b
    · rw [if_pos (by rw [e.1, e.2]), if_pos e]
    · rw [if_neg (fun z => e (kk_inj z)), if_neg e]
  · rw [if_neg (by simpa using hm), if_neg hm]
    unfold encL
    rw [List.map_append]
    congr 1
    · refine List.map_congr_left fun p hp => ?_
      unfold M.put2
      rw [if_neg]
      rintro ⟨h1, h2⟩
      exact hm (by rw [← h1, ← h2]; exact hp)
    · show [(kk a b, V.int z)] = [(kk a b, V.int (M.put2 C a b z a b))]
      unfold M.put2
      rw [if_pos ⟨rfl, rfl⟩]
theorem encL_len (ps : List (Nat × Nat)) (C : Nat → Nat → Int) : (encL ps C).length = ps.length := List.length_map ..
theorem ap_DGet {td ty : TE} {σ : L2.St} {H : Hp} {Q : VK} : tDGet td ty σ H Q = td σ H fun x H1 => ty σ H1 fun y H2 => ∃ a v, x = .ref a ∧ DGet H2 a y (some v) ∧ Q v H2 := rfl
theorem ap_DGet2 {td ty tx : TE} {σ : L2.St} {H : Hp} {Q : VK} : tDGet2 td ty tx σ H Q = td σ H fun x H1 => ∃ a, x = .ref a ∧ IsD H1 a ∧ ty σ H1 fun y H2 => tx σ H2 fun z H3 => ∃ o, DGet H3 a y o ∧ Q (o.getD z) H3 := rfl
section
variable {σ : L2.St} {H : Hp} {D : Ends} {tb : TS}
theorem lockKeys {i j : Nat} {ca : Addr} {ps : List (Nat × Nat)} {C : Nat → Nat → Int} (hv : σ[i]? = some (some (.ref ca))) (hc : H ca = some (.dT (encL ps C))) (Pv : Obj → Nat → L2.St → Hp → Prop)
    (h0 : ∀ od, Pv od 0 σ (upd H ca (.frz od (.dT (encL ps C))))) (hG : ∀ od k σ' H', k ≤ ps.length → Pv od k σ' H' → H' ca = some (.frz od (.dT (encL ps C))))
    (hs : ∀ od k p q σ' H' (D' : Ends), D'.nx = Pv od (k + 1) → D'.ct = Pv od (k + 1) → ps[k]? = some p → Pv od k σ' H' → H' q = some (.tup [.int (p.1 : Int), .int (p.2 : Int)]) → tb D' (σ'.set j (some (.ref q))) H')
    (hd : ∀ od σ' H', Pv od ps.length σ' H' → D.nx σ' (upd H' ca (.dT (encL ps C)))) : tLock (tFor (iKeysMT (tVar i)) (gName j) tb) D σ H := by
  refine ⟨ca, _, hc, True.intro, fun od => ?_⟩
  refine ⟨_, hv, ca, od, encL ps C, rfl, upd_same, ?_⟩
  refine for_it (walk_keysT (kvs := encL ps C) (d := ca) (o := od)) (Pv od) (h0 od) (fun k σ' H' hk p => hG od k σ' H' (by rw [encL_len] at hk; exact hk) p) (fun k x σ' H' H'' hk p hY => ?_) (fun σ' H' p => ?_)
  · obtain ⟨rfl, key, v, q, h1, rfl, h2⟩ := hY
    have hk' : k < ps.length := by rw [encL_len] at hk; exact hk
    unfold encL at h1
    rw [List.getElem?_map, List.getElem?_eq_getElem hk'] at h1
    have h3 : (kk ps[k].1 ps[k].2, V.int (C ps[k].1 ps[k].2)) = (key, v) := Option.some.inj h1
    cases h3
    exact hs od k ps[k] q σ' H'' _ rfl rfl (List.getElem?_eq_getElem hk') p h2
  · rw [encL_len] at p
    exact ⟨hG od _ _ _ (Nat.le_refl _) p, hd od _ _ p⟩
end
/-- behind the lock -/
theorem unlock {H H' : Hp} {ca : Addr} {u v : HO} (h : H ca = some u) (e : Evl.Ex (upd H ca v) H') : Evl.Ex H (upd H' ca u) := fun b o hb => by
  by_cases hbc : b = ca
  · subst hbc
    rw [h] at hb
    rw [upd_same]
    exact hb
  · rw [upd_ne hbc]
    exact e b o (by rw [upd_ne hbc]; exact hb)
def mV : Option Int → V
  | none => .non
  | some p => .int p
/-- the ways, as a test -/
def wayR (bs ss : List Int) (h : Int) : Nat → Nat → Nat → Bool := fun a b c => restsM bs ss h a b c
theorem mem_wayL {bs ss : List Int} {h : Int} {B a b c : Nat} : ((c : Int) ∈ wayL bs ss h B a b) ↔ c < B ∧ wayR bs ss h a b c = true := by
  unfold wayL wayR
  constructor
  · intro hm
    obtain ⟨d, hd, e⟩ := List.mem_map.mp hm
    obtain ⟨h1, h2⟩ := List.mem_filter.mp hd
    have : d = c := by omega
    subst this
    exact ⟨List.mem_range.mp h1, h2⟩
  · rintro ⟨h1, h2⟩
    exact List.mem_map.mpr ⟨c, List.mem_filter.mpr ⟨List.mem_range.mpr h1, h2⟩, rfl⟩
/-! ### ends_of -/
def sp_ends : Sp := fun vs H Q _ => ∃ (wa ca : Addr) (bs ss : List Int) (h : Int) (ps : List (Nat × Nat)) (C : Nat → Nat → Int), vs = [.ref wa, .ref ca] ∧ (1 ≤ h ∧ h ≤ 3) ∧ WaysAt H wa bs ss h (colsOf h) ∧ H ca = some (.dT (encL ps C)) ∧ M.Tab (colsOf h) ps C ∧
  ∀ H', Evl.Ex H H' → Q (.int (M.endF (wayR bs ss h) (colsOf h) C)) H'
theorem ways_ne {H : Hp} {wa ca : Addr} {bs ss : List Int} {h : Int} {B : Nat} {ps : List (Nat × Nat)} {C : Nat → Nat → Int} (hB : 0 < B) (hW : WaysAt H wa bs ss h B) (hc : H ca = some (.dT (encL ps C))) : wa ≠ ca := by
  rintro rfl
  obtain ⟨kvs, h1, h2⟩ := hW
  obtain ⟨l, h3, _⟩ := h2 0 0 hB hB
  rw [hc] at h1
  cases h1
  rw [valV_enc] at h3
  split at h3 <;> cases h3
theorem ok_ends (T : Txt K mg) : FnOk P w K mg base CX0 1 T.f_ends_of T.d_ends_of ["ways", "counts"] sp_ends := by
  refine T.F_ends_of.ok sc_ends_of (fun vs H Q E h => ?_) (fun cdv A outer s H vs Q E hr h => ?_)
  · obtain ⟨wa, ca, bs, ss, h, ps, C, rfl, _⟩ := h
    rfl
  · obtain ⟨wa, ca, bs, ss, h, ps, C, rfl, hh, hW, hc, hT, q⟩ := h
    have hu := hu_of hr
    refine ⟨_, (pss_cons (ps_asg pe_int (pg_name (i := 2) sc_ends_of.nd rfl (Or.inl rfl)))
      (pss_cons (ps_lock (ps_for PassesOwn.never rfl (pi_keysMT (pv 1)) (pg_name (i := 3) sc_ends_of.nd rfl (Or.inl rfl)) (pss_one (ps_if (PW.pt (pw_and (pt_cmpR (ins K rfl) pe_int (pe_dget hu (pv 0) (pv 3) (fun _ _ => rfl)) (by rfl)) (pw_and1 (pt_cmpR (ins K rfl) pe_int (pe_dget hu (pv 0) (pe_tup (pa_cons (pe_ix (ixt K rfl) (pv 3) pe_int (fun _ _ => rfl)) (pa_cons pe_int pa_nil))) (fun _ _ => rfl)) (by rfl))))) (pss_one (ps_aug (i := 2) sc_ends_of.nd rfl (Or.inl rfl) (pe_dget hu (pv 1) (pv 3) (fun _ _ => rfl)) ip_add)) pss_nil))))
      (pss_one (ps_ret (pv 2))))), ?_⟩
    rw [show start N_ends_of [V.ref wa, V.ref ca] = [some (V.ref wa), some (V.ref ca), none, none] from rfl]
    have hB := cols_le hh
    generalize colsOf h = B at hB hW hT q
    have hne := ways_ne (by omega) hW hc
    walk_at "sx"
    refine lockKeys (ca := ca) (ps := ps) (C := C) rfl hc (fun od k σ H' => ∃ y3, σ = [some (V.ref wa), some (V.ref ca), some (V.int (M.lsum (fun x y => if (wayR bs ss h x y 0 && wayR bs ss h y 0 0) = true then C x y else 0) (ps.take k))), y3] ∧ Evl.Ex (upd H ca (.frz od (.dT (encL ps C)))) H')
      (fun od => ⟨none, rfl, Evl.Ex.refl _⟩) (fun od k σ' H' _ ⟨_, _, e⟩ => e _ _ upd_same) ?_ ?_
    · rintro od k ⟨pa, pb⟩ q1 _ H1 D' hD1 hD2 hp ⟨y3, rfl, e1⟩ hq1
      simp only [List.set_cons_zero, List.set_cons_succ]
      have hpm := List.mem_of_getElem? hp
      obtain ⟨ha, hb⟩ := hT.lt _ hpm
      have ha : pa < B := ha
      have hb : pb < B := hb
      have hW1 : WaysAt H1 wa bs ss h B := by
        obtain ⟨kvs, h1, h2⟩ := hW
        refine WaysAt.ex e1 ⟨kvs, by rw [upd_ne hne]; exact h1, fun a b ha hb => ?_⟩
        obtain ⟨l, h3, h4⟩ := h2 a b ha hb
        exact ⟨l, h3, by rw [upd_ne (ne_of h4 hc (by intro z; cases z))]; exact h4⟩
      obtain ⟨kvs, w1, w2⟩ := hW1
      obtain ⟨l1, v1, m1⟩ := w2 pa pb ha hb
      obtain ⟨l2, v2, m2⟩ := w2 pb 0 hb (by omega)
      have hc1 : H1 ca = some (.frz od (.dT (encL ps C))) := e1 _ _ upd_same
      have hsum : M.lsum (fun x y => if (wayR bs ss h x y 0 && wayR bs ss h y 0 0) = true then C x y else 0) (ps.take (k + 1)) = M.lsum (fun x y => if (wayR bs ss h x y 0 && wayR bs ss h y 0 0) = true then C x y else 0) (ps.take k) + (if (wayR bs ss h pa pb 0 && wayR bs ss h pb 0 0) = true then C pa pb else 0) := by
        rw [List.take_add_one, hp]
        exact M.lsum_snoc _ _ _
      generalize M.lsum (fun x y => if (wayR bs ss h x y 0 && wayR bs ss h y 0 0) = true then C x y else 0) (ps.take k) = S at hsum ⊢
      walk_at "sx"
      simp only [ap_DGet]
      walk_at "sx"
      have d1 : DGet H1 wa (.ref q1) (some (.ref l1)) := v1 ▸ DGet.t (k := kk pa pb) w1 hq1
      have d3 : DGet H1 ca (.ref q1) (some (.int (C pa pb))) := by
        have e : valV (encL ps C) (kk pa pb) = some (.int (C pa pb)) := by rw [valV_enc, if_pos hpm]
        exact e ▸ .inr ⟨encL ps C, kk pa pb, q1, .inr ⟨od, hc1⟩, rfl, hq1, rfl⟩
      have fin : ∀ (b : Bool) (H2 : Hp), Evl.Ex H1 H2 → b = (wayR bs ss h pa pb 0 && wayR bs ss h pb 0 0) → ∀ z, z = S + (if b = true then C pa pb else 0) → D'.nx [some (V.ref wa), some (V.ref ca), some (V.int z), some (V.ref q1)] H2 := fun b H2 e2 eb z hz => by
        rw [hD1]
        exact ⟨_, by rw [hsum, hz, eb], e1.trans e2⟩
      have m0 : ∀ a b, inV (.int 0) ((wayL bs ss h B a b).map V.int) = wayR bs ss h a b 0 := fun a b => by
        rw [inV_int]
        have := mem_wayL (bs := bs) (ss := ss) (h := h) (B := B) (a := a) (b := b) (c := 0)
        cases hr : wayR bs ss h a b 0 with
        | true => exact decide_eq_true (this.mpr ⟨by omega, hr⟩)
        | false => exact decide_eq_false fun z => by rw [(this.mp z).2] at hr; cases hr
      refine ⟨_, d1, l1, _, rfl, .inl (SqL.of m1), rfl, flat_ints _, _, rfl, ?_⟩
      simp only [Bool.false_eq_true, if_false]
      rw [m0]
      cases hr1 : wayR bs ss h pa pb 0 with
      | false =>
        rw [if_neg (by decide)]
        exact fin false H1 (Evl.Ex.refl _) (by rw [hr1]; rfl) S (by simp)
      | true =>
        rw [if_pos rfl]
        refine ⟨q1, _, 1, _, rfl, rfl, SqT.of hq1, atI_nat (j := 1) rfl, by simp [sizeLine_eq], fun tp htp => ?_⟩
        have e2 : Evl.Ex H1 (upd H1 tp (.tup [.int (pb : Int), .int 0])) := Evl.Ex.new htp
        have d2 : DGet (upd H1 tp (.tup [.int (pb : Int), .int 0])) wa (.ref tp) (some (.ref l2)) := v2 ▸ DGet.t (k := kk pb 0) (e2 _ _ w1) upd_same
        refine ⟨_, d2, l2, _, rfl, .inl (SqL.of (e2 _ _ m2)), rfl, flat_ints _, _, rfl, ?_⟩
        simp only [Bool.false_eq_true, if_false]
        rw [m0]
        cases hr2 : wayR bs ss h pb 0 0 with
        | false =>
          rw [if_neg (by decide)]
          exact fin false _ e2 (by rw [hr1, hr2]; rfl) S (by simp)
        | true =>
          rw [if_pos rfl]
          have d3' : DGet (upd H1 tp (.tup [.int (pb : Int), .int 0])) ca (.ref q1) (some (.int (C pa pb))) := by
            have e : valV (encL ps C) (kk pa pb) = some (.int (C pa pb)) := by rw [valV_enc, if_pos hpm]
            exact e ▸ .inr ⟨encL ps C, kk pa pb, q1, .inr ⟨od, e2 _ _ hc1⟩, rfl, e2 _ _ hq1, rfl⟩
          exact ⟨_, d3', _, rfl, fin true _ e2 (by rw [hr1, hr2]; rfl) _ (by simp)⟩
    · rintro od _ H1 ⟨y3, rfl, e1⟩
      rw [List.take_length, M.ends_end hT]
      walk_at "sx"
      exact q _ (unlock hc e1)

end
end FB

/-! # W9 -/
namespace FB
open PySem PySem.Spec PyProof.Rows L2
local macro_rules | `(tactic| walk_at "sx") => `(tactic| simp only [ap_Var, ap_C, ap_Op, ap_Un, ap_I, ap_I0, ap_U, ap_Eq, ap_Ne, ap_If, ap_Test, ap_B, ap_And, ap_Or, ap_Not, ap_AndV, ap_OrV, ap_NotV, ap_Chain, ap_CB, ap_Nil, ap_Cons, ap_Call, ap_Asg, ap_gName, ap_Seq, ap_Next, ap_Cont, ap_Ret, ap_IfS, ap_Par, ap_Par3, ap_Aug, ap_ip, ap_Drop, ap_gTup, ap_gCons, ap_gNil, ap_gSub, ap_Lst, ap_Tup, ap_Yes,
  List.getElem?_cons_zero, List.getElem?_cons_succ, List.set_cons_zero, List.set_cons_succ, Option.some.injEq, V.int.injEq, V.bl.injEq, V.ref.injEq, List.cons.injEq, and_true, true_and, exists_eq_left, exists_eq_left', exists_eq_right, exists_eq_right', exists_and_left, exists_and_right, List.append_nil, if_true, if_false, Bool.false_eq_true, Bool.not_true, Bool.not_false])
local macro_rules | `(tactic| walk_at "ev") => `(tactic| (intro H1 e1 Q1 q1; walk_at "sx"; exact q1 _ (Evl.Ex.refl _)))
section
variable {P : Program} {w : World} {K : PySem.W.Frag} {mg : Str → Option Value} {base : Heap}
/-! ### counts_on -/
def wayN (bs ss : List Int) (h : Int) (B a b : Nat) : List Nat := (List.range B).filter fun (c : Nat) => restsM bs ss h a b c
theorem wayN_L (bs ss : List Int) (h : Int) (B a b : Nat) : wayL bs ss h B a b = (wayN bs ss h B a b).map fun (c : Nat) => (c : Int) := rfl
theorem wayN_mem {bs ss : List Int} {h : Int} {B a b c : Nat} : c ∈ wayN bs ss h B a b ↔ c < B ∧ wayR bs ss h a b c = true := by
  unfold wayN wayR
  rw [List.mem_filter, List.mem_range]
theorem wayN_nd (bs ss : List Int) (h : Int) (B a b : Nat) : (wayN bs ss h B a b).Nodup := List.Pairwise.filter _ List.nodup_range
theorem ex_lock {H H1 : Hp} {ca : Addr} {v : HO} (e : Evl.Ex H H1) : Evl.Ex (upd H ca v) (upd H1 ca v) := fun b o hb => by
  by_cases hbc : b = ca
  · subst hbc; rw [upd_same] at hb ⊢; exact hb
  · rw [upd_ne hbc] at hb ⊢; exact e b o hb
def sp_counts : Sp := fun vs H Q _ => ∃ (wa ca : Addr) (bs ss : List Int) (h : Int) (m : Option Int) (ps : List (Nat × Nat)) (C : Nat → Nat → Int), vs = [.ref wa, .ref ca, mV m] ∧ (1 ≤ h ∧ h ≤ 3) ∧ (∀ p, m = some p → 0 < p) ∧ WaysAt H wa bs ss h (colsOf h) ∧ H ca = some (.dT (encL ps C)) ∧ M.Tab (colsOf h) ps C ∧
  ∀ p H' qs G, Evl.Ex H H' → H p = none → H' p = some (.dT (encL qs G)) → M.Tab (colsOf h) qs G → (∀ a b, G a b = M.md m (M.nextC (wayR bs ss h) (colsOf h) C a b)) → Q (.ref p) H'
theorem ok_counts (T : Txt K mg) : FnOk P w K mg base CX0 1 T.f_counts_on T.d_counts_on ["ways", "counts", "modulus"] sp_counts := by
  refine T.F_counts_on.ok sc_counts_on (fun vs H Q E h => ?_) (fun cdv A outer s H vs Q E hr h => ?_)
  · obtain ⟨wa, ca, bs, ss, h, m, ps, C, rfl, _⟩ := h
    rfl
  · obtain ⟨wa, ca, bs, ss, h, m, ps, C, rfl, hh, hm, hW, hc, hT, q⟩ := h
    have hu := hu_of hr
    refine ⟨_, (pss_cons (ps_asg pe_dnewT (pg_name (i := 3) sc_counts_on.nd rfl (Or.inl rfl)))
      (pss_cons (ps_lock (ps_for PassesOwn.never rfl (pi_keysMT (pv 1)) (pg_name (i := 4) sc_counts_on.nd rfl (Or.inl rfl)) (pss_one (ps_for PassesOwn.never rfl (piL K rfl (pe_dget hu (pv 0) (pv 4) (fun _ _ => rfl))) (pg_name (i := 5) sc_counts_on.nd rfl (Or.inl rfl)) (pss_cons (ps_asg (pe_tup (pa_cons (pe_ix (ixt K rfl) (pv 4) pe_int (fun _ _ => rfl)) (pa_cons (pv 5) pa_nil))) (pg_name (i := 6) sc_counts_on.nd rfl (Or.inl rfl)))
      (pss_cons (ps_asg (pe_op op_add (pe_dget2 hu (pv 3) (pv 6) pe_int ⟨by rfl, by rfl, by rfl, by rfl⟩) (pe_dget hu (pv 1) (pv 4) (fun _ _ => rfl))) (pg_name (i := 7) sc_counts_on.nd rfl (Or.inl rfl)))
      (pss_one (ps_dput hu (pv 3) (pv 6) (pe_ifExp (pt_cmpR op_isN (pv 2) pe_non (nomark _)) (pv 7) (pe_op op_mod (pv 7) (pv 2))) (by rfl)))))))))
      (pss_one (ps_ret (pv 3))))), ?_⟩
    rw [show start N_counts_on [V.ref wa, V.ref ca, mV m] = [some (V.ref wa), some (V.ref ca), some (mV m), none, none, none, none, none] from rfl]
    have hB := cols_le hh
    generalize colsOf h = B at hB hW hT q
    have hne := ways_ne (by omega) hW hc
    rw [ap_Seq, ap_Asg, ap_DNewT]
    intro F hF
    rw [ap_gName]
    simp only [List.set_cons_zero, List.set_cons_succ]
    rw [ap_Seq]
    have nFc : ca ≠ F := ne_of_none hc hF
    have e1 : Evl.Ex H (upd H F (.dT [])) := Evl.Ex.new hF
    refine lockKeys (ca := ca) (ps := ps) (C := C) rfl (e1 _ _ hc) (fun od k σ H' => ∃ y4 y5 y6 y7 qs G, σ = [some (V.ref wa), some (V.ref ca), some (mV m), some (V.ref F), y4, y5, y6, y7] ∧ Evl.Ex (upd H ca (.frz od (.dT (encL ps C)))) H' ∧ H' F = some (.dT (encL qs G)) ∧ M.Tab B qs G ∧
        ∀ b c, G b c = M.md m (M.brings (wayR bs ss h) B C (ps.take k) b c))
      (fun od => ⟨none, none, none, none, [], fun _ _ => 0, rfl, ex_lock e1, by rw [upd_ne nFc.symm, upd_same]; rfl, M.Tab.nil B, fun b c => (M.md_zero m).symm⟩) (fun od k σ' H' _ ⟨_, _, _, _, _, _, _, e, _⟩ => e _ _ upd_same) ?_ ?_
    · rintro od k ⟨pa, pb⟩ q1 _ H1 D' hD1 hD2 hp ⟨y4, y5, y6, y7, qs, G, rfl, e2, hF1, hG1, hG2⟩ hq1
      simp only [List.set_cons_zero, List.set_cons_succ]
      have hpm := List.mem_of_getElem? hp
      obtain ⟨ha, hb⟩ := hT.lt _ hpm
      have ha : pa < B := ha
      have hb : pb < B := hb
      have hFf : (upd H ca (.frz od (.dT (encL ps C)))) F = none := by rw [upd_ne nFc.symm]; exact hF
      have hW1 : WaysAt (upd H ca (.frz od (.dT (encL ps C)))) wa bs ss h B := by
        obtain ⟨kvs, h1, h2⟩ := hW
        refine ⟨kvs, by rw [upd_ne hne]; exact h1, fun a b ha hb => ?_⟩
        obtain ⟨l, h3, h4⟩ := h2 a b ha hb
        exact ⟨l, h3, by rw [upd_ne (ne_of h4 hc (by intro z; cases z))]; exact h4⟩
      have hc0 : (upd H ca (.frz od (.dT (encL ps C)))) ca = some (.frz od (.dT (encL ps C))) := upd_same
      generalize (upd H ca (.frz od (.dT (encL ps C)))) = H0 at e2 hFf hW1 hc0 hD1 hD2
      obtain ⟨kvs, w1, w2⟩ := hW1
      obtain ⟨l1, v1, m1⟩ := w2 pa pb ha hb
      have d1 : ∀ H2, Evl.Ex H1 H2 → DGet H2 wa (.ref q1) (some (.ref l1)) := fun H2 e => v1 ▸ DGet.t (k := kk pa pb) (e _ _ (e2 _ _ w1)) (e _ _ hq1)
      have hbr : ∀ b c, M.brings (wayR bs ss h) B C (ps.take (k + 1)) b c = M.brings (wayR bs ss h) B C (ps.take k) b c + (if pb = b ∧ c < B ∧ wayR bs ss h pa pb c = true then C pa pb else 0) := fun b c => by
        rw [List.take_add_one, hp]
        exact M.lsum_snoc _ _ _
      refine Evl.s_forL (a := l1) (xs := (wayL bs ss h B pa pb).map V.int) (fun H2 e Q2 q2 => ?_) (SqL.of (e2 _ _ m1)) (fun j σ H' => ∃ y5 y6 y7 qs G, σ = [some (V.ref wa), some (V.ref ca), some (mV m), some (V.ref F), some (V.ref q1), y5, y6, y7] ∧ Evl.Ex H0 H' ∧ H' q1 = some (.tup [.int (pa : Int), .int (pb : Int)]) ∧ H' F = some (.dT (encL qs G)) ∧ M.Tab B qs G ∧
        ∀ b c, G b c = M.md m (M.brings (wayR bs ss h) B C (ps.take k) b c + (if pb = b ∧ c ∈ (wayN bs ss h B pa pb).take j then C pa pb else 0)))
        (fun H2 e => ⟨_, _, _, _, _, rfl, e2.trans e, e _ _ hq1, e _ _ hF1, hG1, fun b c => by rw [hG2, if_neg (fun z => by simp at z)]; simp⟩) (fun j σ' H' _ ⟨_, _, _, _, _, _, e, _⟩ => SqL.of (e _ _ m1)) ?_ ?_
      · rw [ap_DGet]
        walk_at "sx"
        exact ⟨_, d1 H2 e, q2 _ (Evl.Ex.refl _)⟩
      · rintro j x _ H2 hx ⟨y5, y6, y7, qs, G, rfl, e3, hq2, hF2, hG3, hG4⟩
        have hj : j < (wayN bs ss h B pa pb).length := by
          have := (List.getElem?_eq_some_iff.mp hx).1
          rwa [List.length_map, wayN_L, List.length_map] at this
        obtain ⟨c0, hc1, hx1⟩ : ∃ c0, (wayN bs ss h B pa pb)[j]? = some c0 ∧ x = V.int (c0 : Int) := by
          rw [wayN_L, List.getElem?_map, List.getElem?_map, List.getElem?_eq_getElem hj] at hx
          exact ⟨_, List.getElem?_eq_getElem hj, (Option.some.inj hx).symm⟩
        subst hx1
        obtain ⟨hcB, hcR⟩ := wayN_mem.mp (List.mem_of_getElem? hc1)
        rw [ap_gName]
        simp only [List.set_cons_zero, List.set_cons_succ]
        walk_at "sx"
        refine ⟨q1, _, 1, _, rfl, rfl, SqT.of hq2, atI_nat (j := 1) rfl, by simp [sizeLine_eq], fun tp htp => ?_⟩
        have e4 : Evl.Ex H2 (upd H2 tp (.tup [.int (pb : Int), .int (c0 : Int)])) := Evl.Ex.new htp
        have htk : (upd H2 tp (.tup [.int (pb : Int), .int (c0 : Int)])) tp = some (.tup ((kk pb c0).map kV)) := upd_same
        have hF3 := e4 _ _ hF2
        have hq3 := e4 _ _ hq2
        generalize (upd H2 tp (.tup [.int (pb : Int), .int (c0 : Int)])) = H3 at e4 htk hF3 hq3 ⊢
        have e5 := e3.trans e4
        have dg : DGet H3 F (.ref tp) (if (pb, c0) ∈ qs then some (.int (G pb c0)) else none) := by
          have := DGet.t (k := kk pb c0) hF3 htk
          rwa [valV_enc] at this
        have dgv : (if (pb, c0) ∈ qs then some (V.int (G pb c0)) else none).getD (.int 0) = .int (G pb c0) := by
          split
          · rfl
          · rename_i hn
            rw [hG3.out _ _ hn]; rfl
        have dc : DGet H3 ca (.ref q1) (some (.int (C pa pb))) := by
          have e : valV (encL ps C) (kk pa pb) = some (.int (C pa pb)) := by rw [valV_enc, if_pos hpm]
          exact e ▸ .inr ⟨encL ps C, kk pa pb, q1, .inr ⟨od, e5 _ _ hc0⟩, rfl, hq3, rfl⟩
        simp only [ap_DGet2, ap_DGet, ap_DPut]
        walk_at "sx"
        refine ⟨.inr ⟨_, .inl hF3⟩, _, dg, _, dc, ?_⟩
        rw [dgv]
        have fin : ∃ x_1, DPut H3 F (V.ref tp) (V.int (M.md m (G pb c0 + C pa pb))) x_1 ∧ (∃ x, some (V.int (c0 : Int)) = x) ∧ Evl.Ex H0 x_1 ∧ x_1 q1 = some (HO.tup [V.int (pa : Int), V.int (pb : Int)]) ∧
            ∃ x x_2, x_1 F = some (HO.dT (encL x x_2)) ∧ M.Tab B x x_2 ∧ ∀ (b c : Nat), x_2 b c = M.md m (M.brings (wayR bs ss h) B C (List.take k ps) b c + if pb = b ∧ c ∈ List.take (j + 1) (wayN bs ss h B pa pb) then C pa pb else 0) := by
          have hlen := hG3.len
          have hBB : B * B ≤ 8 * 8 := Nat.mul_le_mul hB.2 hB.2
          refine ⟨_, DPut.t (k := kk pb c0) hF3 htk (by rw [encL_len]; exact Nat.lt_of_le_of_lt (Nat.le_trans hlen hBB) (by decide)), ⟨_, rfl⟩, e5.mut hFf, ?_, M.putP qs (pb, c0), M.put2 G pb c0 (M.md m (G pb c0 + C pa pb)), by rw [putK_enc]; exact upd_same, hG3.put hb hcB _, fun b c => ?_⟩
          · rw [upd_ne (ne_of hq3 hF3 (by intro z; cases z))]
            exact hq3
          · have hnd := wayN_nd bs ss h B pa pb
            have hnew : c0 ∉ (wayN bs ss h B pa pb).take j := fun hmem => by
              obtain ⟨i, hi⟩ := List.mem_iff_getElem?.mp hmem
              rw [List.getElem?_take] at hi
              split at hi
              · rename_i hij
                have := nd_ix hnd hi hc1
                omega
              · cases hi
            unfold M.put2
            by_cases e : b = pb ∧ c = c0
            · obtain ⟨rfl, rfl⟩ := e
              rw [if_pos ⟨rfl, rfl⟩, hG4, if_neg (fun z => hnew z.2), Int.add_zero, M.md_md, if_pos ⟨rfl, by rw [List.take_add_one, hc1]; exact List.mem_append.mpr (.inr (by simp))⟩]
            · rw [if_neg e, hG4]
              have hiff : (pb = b ∧ c ∈ (wayN bs ss h B pa pb).take j) ↔ (pb = b ∧ c ∈ (wayN bs ss h B pa pb).take (j + 1)) := by
                rw [List.take_add_one, hc1]
                constructor
                · exact fun z => ⟨z.1, List.mem_append.mpr (.inl z.2)⟩
                · rintro ⟨z1, z2⟩
                  rcases List.mem_append.mp z2 with z3 | z3
                  · exact ⟨z1, z3⟩
                  · have : c = c0 := by simpa using z3
                    exact absurd ⟨z1.symm, this⟩ e
              simp only [hiff]
        refine ⟨_, rfl, _, rfl, ?_⟩
        cases m with
        | none =>
          rw [if_pos (by decide)]
          exact fin
        | some p =>
          rw [if_neg (by show ¬ decide (V.int p = V.non) = true; simp)]
          exact ⟨p, rfl, hm p rfl, fin⟩
      · rintro _ H2 ⟨y5, y6, y7, qs, G, rfl, e3, hq2, hF2, hG3, hG4⟩
        rw [wayN_L, List.length_map, List.length_map, List.take_length] at hG4
        rw [hD1]
        refine ⟨_, _, _, _, qs, G, rfl, e3, hF2, hG3, fun b c => ?_⟩
        rw [hG4, hbr]
        have hiff : (pb = b ∧ c ∈ wayN bs ss h B pa pb) ↔ (pb = b ∧ c < B ∧ wayR bs ss h pa pb c = true) := by rw [wayN_mem]
        simp only [hiff]
    · rintro od _ H1 ⟨y4, y5, y6, y7, qs, G, rfl, e2, hF1, hG1, hG2⟩
      rw [List.take_length] at hG2
      walk_at "sx"
      refine q F _ qs G (unlock hc e2) hF (by rw [upd_ne nFc.symm]; exact hF1) hG1 fun b c => ?_
      rw [hG2, M.brings_next hT]

end
end FB

/-! # WA -/
namespace FB
open PySem PySem.Spec PyProof.Rows L2
local macro_rules | `(tactic| walk_at "sx") => `(tactic| simp only [ap_Var, ap_C, ap_Op, ap_Un, ap_I, ap_I0, ap_U, ap_Eq, ap_Ne, ap_If, ap_Test, ap_B, ap_And, ap_Or, ap_Not, ap_AndV, ap_OrV, ap_NotV, ap_Chain, ap_CB, ap_Nil, ap_Cons, ap_Call, ap_Asg, ap_gName, ap_Seq, ap_Next, ap_Cont, ap_Ret, ap_IfS, ap_Par, ap_Par3, ap_Aug, ap_ip, ap_Drop, ap_gTup, ap_gCons, ap_gNil, ap_gSub, ap_Lst, ap_Tup, ap_Yes,
  List.getElem?_cons_zero, List.getElem?_cons_succ, List.set_cons_zero, List.set_cons_succ, Option.some.injEq, V.int.injEq, V.bl.injEq, V.ref.injEq, List.cons.injEq, and_true, true_and, exists_eq_left, exists_eq_left', exists_eq_right, exists_eq_right', exists_and_left, exists_and_right, List.append_nil, if_true, if_false, Bool.false_eq_true, Bool.not_true, Bool.not_false])
local macro_rules | `(tactic| walk_at "ev") => `(tactic| (intro H1 e1 Q1 q1; walk_at "sx"; exact q1 _ (Evl.Ex.refl _)))
section
variable {P : Program} {w : World} {K : PySem.W.Frag} {mg : Str → Option Value} {base : Heap}
/-! ### numbers_to -/
def numsM (bs ss : List Int) (h : Int) (m : Option Int) (n : Nat) : List Int := (List.range n).map fun w => M.md m (M.En (wayR bs ss h) (colsOf h) w)
def sp_numbers (K : PySem.W.Frag) : Sp := fun vs H Q _ => ∃ (r : Addr) (bs ss : List Int) (n h : Int) (last : Nat) (m : Option Int), vs = [.ref r, .int h, .int (last : Int), mV m] ∧ RuleAt K H r bs ss n ∧ (1 ≤ h ∧ h ≤ 3) ∧ last ≤ 1000 ∧ (∀ p, m = some p → 1 < p) ∧
  ∀ p H', Evl.Ex H H' → H p = none → H' p = some (.lst ((numsM bs ss h m (last + 1)).map V.int)) → Q (.ref p) H'
theorem ap_Disp1T {tk tv : TE} {σ : L2.St} {H : Hp} {Q : VK} : tDisp1T tk tv σ H Q = ∀ p, H p = none → tk σ (upd H p (.dT [])) fun x H1 => tv σ H1 fun y H2 => H2 p = some (.dT []) ∧ ∃ (b : Addr) (k : List L2.Key), x = .ref b ∧ H2 b = some (.tup (k.map kV)) ∧ Q (.ref p) (upd H2 p (.dT [(k, y)])) := rfl
theorem ok_numbers (T : Txt K mg) : FnOk P w K mg base CX0 3 T.f_numbers_to T.d_numbers_to ["rule", "high", "last", "modulus"] (sp_numbers K) := by
  have G_ways_on : FnOk P w K mg base CX0 2 T.f_ways_on T.d_ways_on ["rule", "high"] (sp_ways K) := ok_ways T
  have G_ends_of : FnOk P w K mg base CX0 1 T.f_ends_of T.d_ends_of ["ways", "counts"] sp_ends := ok_ends T
  have G_counts_on : FnOk P w K mg base CX0 1 T.f_counts_on T.d_counts_on ["ways", "counts", "modulus"] sp_counts := ok_counts T
  refine T.F_numbers_to.ok sc_numbers_to (fun vs H Q E h => ?_) (fun cdv A outer s H vs Q E hr h => ?_)
  · obtain ⟨r, bs, ss, n, h, last, m, rfl, _⟩ := h
    rfl
  · obtain ⟨r, bs, ss, n, h, last, m, rfl, hR, hh, hl, hm, q⟩ := h
    have hu := hu_of hr
    refine ⟨_, (pss_cons (ps_par3 (i := 4) (j := 5) (l := 6) (by rfl) sc_numbers_to.nd rfl rfl rfl (by decide) (by decide) (by decide) rfl rfl rfl (pa_cons (pe_call G_ways_on (hr.mono (by decide)) (by rfl) T.g_ways_on T.F_ways_on.kp T.b_ways_on .nil pass0 (pa_cons (pv 0) (pa_cons (pv 1) pa_nil))) (pa_cons (pe_disp1T hu (pe_tup (pa_cons pe_int (pa_cons pe_int pa_nil))) pe_int) (pa_cons (pe_lst pa_nil) pa_nil))) (by rfl))
      (pss_cons (ps_for PassesOwn.never rfl (pi_range1 (by rfl) T.z_range (pa_cons (pe_op op_add (pv 2) pe_int) pa_nil)) (pg_name (i := 7) sc_numbers_to.nd rfl (Or.inl rfl)) (pss_cons (ps_expr (pe_bm PySem.F.plainAttrs_list PySem.F.slot_list_append PySem.F.type_list_append mt_append (pv 6) (pa_cons (pe_ifExp (pt_cmpR op_isN (pv 3) pe_non (nomark _)) (pe_call G_ends_of (hr.mono (by decide)) (by rfl) T.g_ends_of T.F_ends_of.kp T.b_ends_of .nil pass0 (pa_cons (pv 4) (pa_cons (pv 5) pa_nil))) (pe_op op_mod (pe_call G_ends_of (hr.mono (by decide)) (by rfl) T.g_ends_of T.F_ends_of.kp T.b_ends_of .nil pass0 (pa_cons (pv 4) (pa_cons (pv 5) pa_nil))) (pv 3))) pa_nil)))
      (pss_one (ps_asg (pe_call G_counts_on (hr.mono (by decide)) (by rfl) T.g_counts_on T.F_counts_on.kp T.b_counts_on .nil pass0 (pa_cons (pv 4) (pa_cons (pv 5) (pa_cons (pv 3) pa_nil)))) (pg_name (i := 5) sc_numbers_to.nd rfl (Or.inl rfl))))))
      (pss_one (ps_ret (pv 6))))), ?_⟩
    rw [show start N_numbers_to [V.ref r, V.int h, V.int (last : Int), mV m] = [some (V.ref r), some (V.int h), some (V.int (last : Int)), some (mV m), none, none, none, none] from rfl]
    have hB := cols_le hh
    rw [ap_Seq, ap_Par3]
    simp only [ap_Disp1T]
    walk_at "sx"
    refine ⟨r, bs, ss, n, h, rfl, hR, hh, fun wa H1 e1 hwa hW => ?_⟩
    intro ca hca
    refine ⟨by simp [sizeLine_eq], fun tp htp => ?_⟩
    have nct : ca ≠ tp := ne_of_none upd_same htp
    have e2 : Evl.Ex H1 (upd (upd H1 ca (.dT [])) tp (.tup [.int 0, .int 0])) := (Evl.Ex.new (o := .dT []) hca).trans (Evl.Ex.new htp)
    refine ⟨by rw [upd_ne nct]; exact upd_same, tp, kk 0 0, rfl, upd_same, by decide, fun F hF => ⟨_, _, _, ⟨rfl, rfl, rfl⟩, ?_⟩⟩
    have e3 : Evl.Ex H1 (upd (upd (upd H1 ca (.dT [])) tp (.tup [.int 0, .int 0])) ca (.dT [(kk 0 0, .int 1)])) := e2.mut hca
    have hc0 : (upd (upd (upd H1 ca (.dT [])) tp (.tup [.int 0, .int 0])) ca (.dT [(kk 0 0, .int 1)])) ca = some (.dT (encL [(0, 0)] M.C0)) := upd_same
    generalize (upd (upd (upd H1 ca (.dT [])) tp (.tup [.int 0, .int 0])) ca (.dT [(kk 0 0, .int 1)])) = H3 at e3 hc0 hF ⊢
    have e13 := e1.trans e3
    have hW3 := hW.ex e3
    have hm0 : ∀ p, m = some p → 0 < p := fun p hp => by have := hm p hp; omega
    have hF0 : H F = none := Evl.fresh_back e13 hF
    have hD0 : ∀ a b, M.C0 a b = M.md m (M.Cn (wayR bs ss h) (colsOf h) 0 a b) := fun a b => by
      show M.C0 a b = M.md m (M.C0 a b)
      cases m with
      | none => rfl
      | some p =>
        have := hm p rfl
        unfold M.C0 M.md
        split
        · exact (Int.emod_eq_of_lt (by decide) this).symm
        · exact (Int.zero_emod p).symm
    refine Evl.s_forR1 (n := (last : Int) + 1) (by walk_at "ev") (by omega) (fun i σ H' => ∃ (ca : Addr) (ps : List (Nat × Nat)) (D : Nat → Nat → Int) (y7 : Option V), σ = [some (V.ref r), some (V.int h), some (V.int (last : Int)), some (mV m), some (V.ref wa), some (V.ref ca), some (V.ref F), y7] ∧ Evl.Ex H3 H' ∧
        H' ca = some (.dT (encL ps D)) ∧ M.Tab (colsOf h) ps D ∧ (∀ a b, D a b = M.md m (M.Cn (wayR bs ss h) (colsOf h) i a b)) ∧ H' F = some (.lst ((numsM bs ss h m i).map V.int)))
      (fun H4 e4 => ⟨ca, _, _, none, rfl, (Evl.Ex.new hF).trans e4, e4 _ _ (by rw [upd_ne (ne_of_none hc0 hF)]; exact hc0), M.Tab.start (by omega), hD0, e4 _ _ upd_same⟩) ?_ ?_
    · rintro i _ H4 hi ⟨ca, ps, D, y7, rfl, e4, hca, hT, hD, hF4⟩
      simp only [List.set_cons_zero, List.set_cons_succ]
      rw [ap_Seq]
      have hres : M.md m (M.endF (wayR bs ss h) (colsOf h) D) = M.md m (M.En (wayR bs ss h) (colsOf h) i) := by
        have : D = fun a b => M.md m (M.Cn (wayR bs ss h) (colsOf h) i a b) := by funext a b; exact hD a b
        rw [this, M.md_end]
        rfl
      refine Evl.s_app (l := F) (xs := (numsM bs ss h m i).map V.int) (v := .int (M.md m (M.En (wayR bs ss h) (colsOf h) i))) hF4 (by walk_at "ev") ?_ ?_ ?_
      · intro H5 e5 Q5 q5
        walk_at "sx"
        have hcall : ∀ Q : VK, (∀ H', Evl.Ex H5 H' → Q (.int (M.endF (wayR bs ss h) (colsOf h) D)) H') → sp_ends [V.ref wa, V.ref ca] H5 Q E0 := fun Q q => ⟨wa, ca, bs, ss, h, ps, D, rfl, hh, hW3.ex (e4.trans e5), e5 _ _ hca, hT, q⟩
        cases m with
        | none =>
          rw [if_pos (by decide)]
          refine hcall _ fun H6 e6 => ?_
          rw [← hres] at q5
          exact q5 _ e6
        | some p =>
          rw [if_neg (by show ¬ decide (V.int p = V.non) = true; simp)]
          refine hcall _ fun H6 e6 => ⟨_, rfl, p, rfl, hm0 p rfl, ?_⟩
          rw [← hres] at q5
          exact q5 _ e6
      · rw [List.length_map]
        unfold numsM
        rw [List.length_map, List.length_range]
        omega
      · intro H5 e5
        have e45 := (e4.trans e5).mut (o := .lst ((numsM bs ss h m i).map V.int ++ [V.int (M.md m (M.En (wayR bs ss h) (colsOf h) i))])) hF
        have hca5 := e5 _ _ hca
        have hcF : ca ≠ F := ne_of hca hF4 (by intro z; cases z)
        have hca6 : (upd H5 F (.lst ((numsM bs ss h m i).map V.int ++ [V.int (M.md m (M.En (wayR bs ss h) (colsOf h) i))]))) ca = some (.dT (encL ps D)) := by rw [upd_ne hcF]; exact hca5
        have hF6 : (upd H5 F (.lst ((numsM bs ss h m i).map V.int ++ [V.int (M.md m (M.En (wayR bs ss h) (colsOf h) i))]))) F = some (.lst ((numsM bs ss h m (i + 1)).map V.int)) := by
          rw [upd_same]
          unfold numsM
          rw [List.range_succ, List.map_append, List.map_append]
          rfl
        generalize (upd H5 F (.lst ((numsM bs ss h m i).map V.int ++ [V.int (M.md m (M.En (wayR bs ss h) (colsOf h) i))]))) = H6 at e45 hca6 hF6 ⊢
        walk_at "sx"
        refine ⟨wa, ca, bs, ss, h, m, ps, D, rfl, hh, hm0, hW3.ex e45, hca6, hT, fun p H7 qs G e7 hp hp7 hG hG2 => ?_⟩
        refine ⟨p, rfl, e45.trans e7, qs, G, hp7, hG, fun a b => ?_, e7 _ _ hF6⟩
        rw [hG2]
        have : D = fun a b => M.md m (M.Cn (wayR bs ss h) (colsOf h) i a b) := by funext a b; exact hD a b
        rw [this, M.md_next]
        rfl
    · rintro _ H4 ⟨ca, ps, D, y7, rfl, e4, hca, hT, hD, hF4⟩
      walk_at "sx"
      exact q F H4 (e13.trans e4) hF0 (by rw [hF4]; congr 4)

end
end FB

/-! # WB -/
namespace FB
open PySem PySem.Spec PyProof.Rows L2
local macro_rules | `(tactic| walk_at "sx") => `(tactic| simp only [ap_Var, ap_C, ap_Op, ap_Un, ap_I, ap_I0, ap_U, ap_Eq, ap_Ne, ap_If, ap_Test, ap_B, ap_And, ap_Or, ap_Not, ap_AndV, ap_OrV, ap_NotV, ap_Chain, ap_CB, ap_Nil, ap_Cons, ap_Call, ap_Asg, ap_gName, ap_Seq, ap_Next, ap_Cont, ap_Ret, ap_IfS, ap_Par, ap_Par3, ap_Aug, ap_ip, ap_Drop, ap_gTup, ap_gCons, ap_gNil, ap_gSub, ap_Lst, ap_Tup, ap_Yes,
  List.getElem?_cons_zero, List.getElem?_cons_succ, List.set_cons_zero, List.set_cons_succ, Option.some.injEq, V.int.injEq, V.bl.injEq, V.ref.injEq, List.cons.injEq, and_true, true_and, exists_eq_left, exists_eq_left', exists_eq_right, exists_eq_right', exists_and_left, exists_and_right, List.append_nil, if_true, if_false, Bool.false_eq_true, Bool.not_true, Bool.not_false])
local macro_rules | `(tactic| walk_at "ev") => `(tactic| (intro H1 e1 Q1 q1; walk_at "sx"; exact q1 _ (Evl.Ex.refl _)))
section
variable {P : Program} {w : World} {K : PySem.W.Frag} {mg : Str → Option Value} {base : Heap}
/-! ### stills_in_strip, stills_far -/
/-- how many boards rest -/
def enM (bs ss : List Int) (h : Int) (w : Nat) : Int := M.En (wayR bs ss h) (colsOf h) w
def sp_stills : Sp := fun vs H Q _ => ∃ (r : Addr) (bs ss : List Int) (n h : Int) (wd : Nat), vs = [.ref r, .int h, .int (wd : Int)] ∧ RuleH H r bs ss n ∧ IsRule bs ss n ∧ (1 ≤ h ∧ h ≤ 3) ∧ wd ≤ 200 ∧ ∀ H', Evl.Ex H H' → Q (.int (enM bs ss h wd)) H'
def sp_stillsF : Sp := fun vs H Q _ => ∃ (r : Addr) (bs ss : List Int) (n h : Int) (wd : Nat), vs = [.ref r, .int h, .int (wd : Int)] ∧ RuleH H r bs ss n ∧ IsRule bs ss n ∧ (1 ≤ h ∧ h ≤ 3) ∧ wd ≤ 1000000000000000000000000000000000000000000000000000000000000 ∧ ∀ H', Evl.Ex H H' → Q (.int (enM bs ss h wd % M.PI)) H'
theorem ok_stills (T : Txt K mg) : FnOk P w K mg base CX0 6 T.f_stills_in_strip T.d_stills_in_strip ["rule", "high", "wide"] sp_stills := by
  have G_need_strip : FnOk P w K mg base CX0 5 T.f_need_strip T.d_need_strip ["rule", "high", "wide", "most"] sp_need_strip := ok_need_strip T
  have G_numbers_to : FnOk P w K mg base CX0 3 T.f_numbers_to T.d_numbers_to ["rule", "high", "last", "modulus"] (sp_numbers K) := ok_numbers T
  refine T.F_stills_in_strip.ok sc_stills_in_strip (fun vs H Q E h => ?_) (fun cdv A outer s H vs Q E hr h => ?_)
  · obtain ⟨r, bs, ss, n, h, wd, rfl, _⟩ := h
    rfl
  · obtain ⟨r, bs, ss, n, h, wd, rfl, hR, hI, hh, hw, q⟩ := h
    refine ⟨_, (pss_cons (ps_expr (pe_call G_need_strip (hr.mono (by decide)) (by rfl) T.g_need_strip T.F_need_strip.kp T.b_need_strip .nil pass0 (pa_cons (pv 0) (pa_cons (pv 1) (pa_cons (pv 2) (pa_cons (pe_glob (v := .int 200) (by rfl) T.c_MOST_WIDE ⟨_, rfl⟩) pa_nil))))))
      (pss_one (ps_ret (pe_ix (ixl K rfl) (pe_call G_numbers_to (hr.mono (by decide)) (by rfl) T.g_numbers_to T.F_numbers_to.kp T.b_numbers_to .nil pass0 (pa_cons (pv 0) (pa_cons (pv 1) (pa_cons (pv 2) (pa_cons pe_non pa_nil))))) (pe_un un_neg pe_int) (fun _ _ => rfl))))), ?_⟩
    rw [show start N_stills_in_strip [V.ref r, V.int h, V.int (wd : Int)] = [some (V.ref r), some (V.int h), some (V.int (wd : Int))] from rfl]
    walk_at "sx"
    refine ⟨r, bs, ss, n, h, wd, 200, rfl, hR, hI, hh, ⟨by omega, by omega⟩, fun H1 e1 => ?_⟩
    refine ⟨r, bs, ss, n, h, wd, none, rfl, (hR.ex e1).at_, hh, by omega, (fun p z => nomatch z), fun p H2 e2 hp hp2 => ?_⟩
    refine ⟨p, _, -1, _, rfl, rfl, SqL.of hp2, ?_, q H2 (e1.trans e2)⟩
    unfold numsM
    rw [List.range_succ, List.map_append, List.map_append]
    exact atI_last _ _
theorem φ_num {bs ss : List Int} {h : Int} {N i : Nat} (hi : i < N) : M.φ ((numsM bs ss h (some M.PI) N).getD i 0) = M.φ (enM bs ss h i) := by
  unfold numsM
  rw [List.getD_eq_getElem?_getD, List.getElem?_map, List.getElem?_range hi]
  show M.φ (enM bs ss h i % M.PI) = _
  exact M.φ_mod _
theorem ok_stillsF (T : Txt K mg) : FnOk P w K mg base CX0 6 T.f_stills_far T.d_stills_far ["rule", "high", "wide"] sp_stillsF := by
  have G_need_strip : FnOk P w K mg base CX0 5 T.f_need_strip T.d_need_strip ["rule", "high", "wide", "most"] sp_need_strip := ok_need_strip T
  have G_numbers_to : FnOk P w K mg base CX0 3 T.f_numbers_to T.d_numbers_to ["rule", "high", "last", "modulus"] (sp_numbers K) := ok_numbers T
  have G_far_number : FnOk P w K mg base CX0 3 T.f_far_number T.d_far_number ["numbers", "rule", "place"] (sp_far K) := ok_far T
  have G_shortest_rule : FnOk P w K mg base CX0 2 T.f_shortest_rule T.d_shortest_rule ["numbers"] (sp_short K) := ok_short T
  refine T.F_stills_far.ok sc_stills_far (fun vs H Q E h => ?_) (fun cdv A outer s H vs Q E hr h => ?_)
  · obtain ⟨r, bs, ss, n, h, wd, rfl, _⟩ := h
    rfl
  · obtain ⟨r, bs, ss, n, h, wd, rfl, hR, hI, hh, hw, q⟩ := h
    refine ⟨_, (pss_cons (ps_expr (pe_call G_need_strip (hr.mono (by decide)) (by rfl) T.g_need_strip T.F_need_strip.kp T.b_need_strip .nil pass0 (pa_cons (pv 0) (pa_cons (pv 1) (pa_cons (pv 2) (pa_cons (pe_glob (v := .int 1000000000000000000000000000000000000000000000000000000000000) (by rfl) T.c_FARTHEST ⟨_, rfl⟩) pa_nil))))))
      (pss_cons (ps_asg (pe_op op_shl pe_int (pe_op op_mul pe_int (pv 1))) (pg_name (i := 3) sc_stills_far.nd rfl (Or.inl rfl)))
      (pss_cons (ps_asg (pe_call G_numbers_to (hr.mono (by decide)) (by rfl) T.g_numbers_to T.F_numbers_to.kp T.b_numbers_to .nil pass0 (pa_cons (pv 0) (pa_cons (pv 1) (pa_cons (pe_op op_add (pe_op op_mul pe_int (pv 3)) pe_int) (pa_cons (pe_glob (v := .int 2305843009213693951) (by rfl) T.c_PRIME ⟨_, rfl⟩) pa_nil))))) (pg_name (i := 4) sc_stills_far.nd rfl (Or.inl rfl)))
      (pss_one (ps_ret (pe_ifExp (pt_cmpR op_lt (pv 2) (pe_callB (lenS K rfl) (by rfl) T.z_len (by decide +kernel) (pa_cons (pv 4) pa_nil)) (nomark _)) (pe_ix (ixl K rfl) (pv 4) (pv 2) (fun _ _ => rfl)) (pe_call G_far_number (hr.mono (by decide)) (by rfl) T.g_far_number T.F_far_number.kp T.b_far_number .nil pass0 (pa_cons (pv 4) (pa_cons (pe_call G_shortest_rule (hr.mono (by decide)) (by rfl) T.g_shortest_rule T.F_shortest_rule.kp T.b_shortest_rule .nil pass0 (pa_cons (pv 4) pa_nil)) (pa_cons (pv 2) pa_nil)))))))))), ?_⟩
    rw [show start N_stills_far [V.ref r, V.int h, V.int (wd : Int)] = [some (V.ref r), some (V.int h), some (V.int (wd : Int)), none, none] from rfl]
    have hB := cols_le hh
    have hpw : (1 : Int) * 2 ^ (2 * h).toNat = ((colsOf h * colsOf h : Nat) : Int) := by
      have : h = 1 ∨ h = 2 ∨ h = 3 := by omega
      rcases this with rfl | rfl | rfl <;> decide
    have hBB : colsOf h * colsOf h ≤ 64 := Nat.mul_le_mul hB.2 hB.2
    have hBB4 : 4 ≤ colsOf h * colsOf h := Nat.mul_le_mul hB.1 hB.1
    obtain ⟨e, L, hL, hrec⟩ := M.En_rec (wayR bs ss h) (colsOf h) (by omega)
    walk_at "sx"
    refine ⟨r, bs, ss, n, h, wd, 1000000000000000000000000000000000000000000000000000000000000, rfl, hR, hI, hh, ⟨by omega, by omega⟩, fun H1 e1 => ?_⟩
    refine ⟨by unfold CMul; omega, ⟨by omega, ?_⟩, ?_⟩
    · omega
    rw [hpw]
    generalize colsOf h * colsOf h = S at hBB hBB4 hL
    refine ⟨.inl ⟨by decide, by decide⟩, r, bs, ss, n, h, 2 * S + 1, some M.PI, rfl, (hR.ex e1).at_, hh, by omega, (fun p z => by cases z; decide), fun p H2 e2 hp hp2 => ?_⟩
    have hlen : (numsM bs ss h (some M.PI) (2 * S + 1 + 1)).length = 2 * S + 2 := by
      unfold numsM
      rw [List.length_map, List.length_range]
    have hin : spT_in (numsM bs ss h (some M.PI) (2 * S + 1 + 1)) := fun x hx => by
      unfold numsM at hx
      obtain ⟨i, _, rfl⟩ := List.mem_map.mp hx
      exact M.inP_mod _
    have hsl : ∀ H', Evl.Ex H2 H' → SqL K H' p ((numsM bs ss h (some M.PI) (2 * S + 1 + 1)).map V.int) := fun H' e => SqL.of (e _ _ hp2)
    have hs : ∀ i, i < (numsM bs ss h (some M.PI) (2 * S + 1 + 1)).length → (fun w => M.φ (enM bs ss h w)) i = M.φ ((numsM bs ss h (some M.PI) (2 * S + 1 + 1)).getD i 0) := fun i hi => by
      rw [hlen] at hi
      exact (φ_num hi).symm
    refine ⟨p, _, rfl, .inl (hsl H2 (Evl.Ex.refl _)), _, rfl, ?_⟩
    rw [List.length_map]
    by_cases hlt : wd < 2 * S + 2
    · rw [if_pos (decide_eq_true (by rw [hlen]; omega))]
      refine ixI (hsl H2 (Evl.Ex.refl _)) (by omega) (by rw [hlen]; omega) ?_
      rw [Int.toNat_natCast]
      have : (numsM bs ss h (some M.PI) (2 * S + 1 + 1)).getD wd 0 = enM bs ss h wd % M.PI := by
        unfold numsM
        rw [List.getD_eq_getElem?_getD, List.getElem?_map, List.getElem?_range (by omega)]
        rfl
      rw [this]
      exact q _ (e1.trans e2)
    · rw [if_neg (by rw [decide_eq_true_eq, hlen]; omega)]
      refine ⟨p, _, fun w => M.φ (enM bs ss h w), rfl, hsl H2 (Evl.Ex.refl _), hin, by rw [hlen]; omega, hs, fun p3 H3 rule old gap last e3 hp3 hp33 hB3 => ?_⟩
      have hle : rule.length ≤ L := by
        have := M.BM.le_true hrec hB3.1
        rwa [List.length_map] at this
      have hall := M.BM.all hrec hB3.1 (by rw [hlen]; omega)
      rw [List.length_map] at hall
      refine ⟨p, p3, _, rule, wd, fun w => M.φ (enM bs ss h w), rfl, hsl H3 e3, SqL.of hp33, hin, hB3.2.1, by omega, by rw [hlen]; omega, hs, hall, fun x H4 e4 hx hxe => ?_⟩
      rw [M.eq_of_φ hx hxe]
      exact q _ ((e1.trans e2).trans (e3.trans e4))

end
end FB

/-! # WC -/
namespace FB
open PySem PySem.Spec PyProof.Rows L2
local macro_rules | `(tactic| walk_at "sx") => `(tactic| simp only [ap_Var, ap_C, ap_Op, ap_Un, ap_I, ap_I0, ap_U, ap_Eq, ap_Ne, ap_If, ap_Test, ap_B, ap_And, ap_Or, ap_Not, ap_AndV, ap_OrV, ap_NotV, ap_Chain, ap_CB, ap_Nil, ap_Cons, ap_Call, ap_Asg, ap_gName, ap_Seq, ap_Next, ap_Cont, ap_Ret, ap_IfS, ap_Par, ap_Par3, ap_Aug, ap_ip, ap_Drop, ap_gTup, ap_gCons, ap_gNil, ap_gSub, ap_Lst, ap_Tup, ap_Yes,
  List.getElem?_cons_zero, List.getElem?_cons_succ, List.set_cons_zero, List.set_cons_succ, Option.some.injEq, V.int.injEq, V.bl.injEq, V.ref.injEq, List.cons.injEq, and_true, true_and, exists_eq_left, exists_eq_left', exists_eq_right, exists_eq_right', exists_and_left, exists_and_right, List.append_nil, if_true, if_false, Bool.false_eq_true, Bool.not_true, Bool.not_false])
local macro_rules | `(tactic| walk_at "ev") => `(tactic| (intro H1 e1 Q1 q1; walk_at "sx"; exact q1 _ (Evl.Ex.refl _)))
section
variable {P : Program} {w : World} {K : PySem.W.Frag} {mg : Str → Option Value} {base : Heap}
/-! ### the row of draws -/
/-- all objects but one are as they were -/
def Ox (row : Addr) (H H' : Hp) : Prop := ∀ a o, a ≠ row → H a = some o → H' a = some o
theorem Ox.refl (row : Addr) (H : Hp) : Ox row H H := fun _ _ _ e => e
theorem Ox.trans {row : Addr} {H H1 H2 : Hp} (a : Ox row H H1) (b : Ox row H1 H2) : Ox row H H2 := fun x o n h => b x o n (a x o n h)
theorem Ox.ex {row : Addr} {H H' : Hp} (e : Evl.Ex H H') : Ox row H H' := fun a o _ h => e a o h
theorem Ox.upd {row : Addr} {H H' : Hp} {o : HO} (e : Ox row H H') : Ox row H (upd H' row o) := fun a u n h => by
  rw [upd_ne n]
  exact e a u n h
theorem Ox.mut {row : Addr} {H H' : Hp} {p : Addr} {o : HO} (e : Ox row H H') (hp : H p = none) : Ox row H (L2.upd H' p o) := fun a u n h => by
  rw [upd_ne (ne_of_none h hp)]
  exact e a u n h
theorem Ox.rd {row : Addr} {H H' : Hp} {a : Addr} {u : HO} (e : Ox row H H') (n : a ≠ row) (h : Rd H a u) : Rd H' a u := by
  rcases h with h | ⟨o, h⟩
  · exact .inl (e _ _ n h)
  · exact .inr ⟨o, e _ _ n h⟩
theorem Ox.sl {K : PySem.W.Frag} {row : Addr} {H H' : Hp} {a : Addr} {xs : List V} (e : Ox row H H') (n : a ≠ row ∨ ∀ H, SqL K H a xs) (h : SqL K H a xs) : SqL K H' a xs := by
  rcases n with n | n
  · rcases h with h | h
    · exact .inl (e.rd n h)
    · exact .inr h
  · exact n H'
theorem Ox.fresh {row p : Addr} {H H' : Hp} (e : Ox row H H') (n : p ≠ row) (h : H' p = none) : H p = none := by
  cases q : H p with
  | none => rfl
  | some o => rw [e _ _ n q] at h; cases h
def RowAt (K : PySem.W.Frag) (H : Hp) (row sc : Addr) (xs : List Int) : Prop := ∃ (pos : Nat) (st rest : Int), H row = some (.lst [.ref sc, .int (pos : Int), .int st, .int rest]) ∧ (sc ≠ row ∨ ∀ H, SqL K H sc (xs.map V.int)) ∧ SqL K H sc (xs.map V.int)
theorem RowAt.ex {K : PySem.W.Frag} {H H' : Hp} {row sc : Addr} {xs : List Int} (e : Evl.Ex H H') (h : RowAt K H row sc xs) : RowAt K H' row sc xs :=
  let ⟨pos, st, rest, h1, h2, h3⟩ := h
  ⟨pos, st, rest, e _ _ h1, h2, Evl.ex_l e h3⟩
theorem RowAt.some_ {K : PySem.W.Frag} {H : Hp} {row sc : Addr} {xs : List Int} (h : RowAt K H row sc xs) : ∃ l, H row = some (.lst l) :=
  let ⟨_, _, _, h1, _⟩ := h
  ⟨_, h1⟩
/-- a new object changes -/
theorem RowAt.mut {K : PySem.W.Frag} {H1 H : Hp} {row sc p : Addr} {xs : List Int} {o : HO} (h1 : RowAt K H1 row sc xs) (e : Ox row H1 H) (h : RowAt K H row sc xs) (hp : H1 p = none) : RowAt K (L2.upd H p o) row sc xs :=
  let ⟨pos, st, rest, g1, g2, g3⟩ := h
  have n : p ≠ row := fun z => by
    obtain ⟨l, hl⟩ := h1.some_
    rw [z, hl] at hp
    cases hp
  ⟨pos, st, rest, by rw [upd_ne (Ne.symm n)]; exact g1, g2, (e.mut hp).sl g2 (let ⟨_, _, _, _, _, k⟩ := h1; k)⟩
theorem RuleH.ox {H H' : Hp} {row r : Addr} {bs ss : List Int} {n : Int} {xs : List V} (e : Ox row H H') (hr : H row = some (.lst xs)) (h : RuleH H r bs ss n) : RuleH H' r bs ss n :=
  let ⟨b, s, h1, h2, h3⟩ := h
  ⟨b, s, e _ _ (ne_of h1 hr (by intro z; cases z)) h1, e _ _ (ne_of h2 hr (by intro z; cases z)) h2, e _ _ (ne_of h3 hr (by intro z; cases z)) h3⟩
section
variable {H : Hp} {Q : VK} {row : Addr} {a b c d : V}
theorem ix0 (h : H row = some (.lst [a, b, c, d])) (q : Q a H) : rIxL K (.ref row) (.int 0) H Q := ⟨_, _, _, _, rfl, rfl, SqL.of h, rfl, q⟩
theorem ix1 (h : H row = some (.lst [a, b, c, d])) (q : Q b H) : rIxL K (.ref row) (.int 1) H Q := ⟨_, _, _, _, rfl, rfl, SqL.of h, rfl, q⟩
theorem ix2 (h : H row = some (.lst [a, b, c, d])) (q : Q c H) : rIxL K (.ref row) (.int 2) H Q := ⟨_, _, _, _, rfl, rfl, SqL.of h, rfl, q⟩
theorem ix3 (h : H row = some (.lst [a, b, c, d])) (q : Q d H) : rIxL K (.ref row) (.int 3) H Q := ⟨_, _, _, _, rfl, rfl, SqL.of h, rfl, q⟩
variable {R : Hp → Prop} {v : V}
theorem st1 (h : H row = some (.lst [a, b, c, d])) (q : R (upd H row (.lst [a, v, c, d]))) : rSetL (.ref row) (.int 1) v H R := ⟨_, _, _, _, rfl, rfl, h, rfl, q⟩
theorem st2 (h : H row = some (.lst [a, b, c, d])) (q : R (upd H row (.lst [a, b, v, d]))) : rSetL (.ref row) (.int 2) v H R := ⟨_, _, _, _, rfl, rfl, h, rfl, q⟩
theorem st3 (h : H row = some (.lst [a, b, c, d])) (q : R (upd H row (.lst [a, b, c, v]))) : rSetL (.ref row) (.int 3) v H R := ⟨_, _, _, _, rfl, rfl, h, rfl, q⟩
end
theorem divW {m : Int} (h0 : 0 < m) (h : m ≤ 2 ^ 70) : CDivW 0 m := ⟨h0, (Nat.log2_lt (by omega)).mpr (Nat.lt_of_le_of_lt (show m.natAbs ≤ 2 ^ 70 by omega) (Nat.pow_lt_pow_right (by decide) (by decide)))⟩
def sp_taken (K : PySem.W.Frag) : Sp := fun vs H Q _ => ∃ (row sc : Addr) (xs : List Int) (many : Int), vs = [.ref row, .int many] ∧ RowAt K H row sc xs ∧ 0 < many ∧ many ≤ 2 ^ 70 ∧ ∀ r H', Ox row H H' → RowAt K H' row sc xs → (0 ≤ r ∧ r < many) → Q (.int r) H'
theorem ok_taken (T : Txt K mg) : FnOk P w K mg base CX0 1 T.f__law_taken T.d__law_taken ["_law_row", "_law_many"] (sp_taken K) := by
  refine T.F__law_taken.ok sc__law_taken (fun vs H Q E h => ?_) (fun cdv A outer s H vs Q E hr h => ?_)
  · obtain ⟨row, sc, xs, many, rfl, _⟩ := h
    rfl
  · obtain ⟨row, sc, xs, many, rfl, hR, h0, h70, q⟩ := h
    obtain ⟨pos, st, rest, h1, h2, h3⟩ := hR
    have hmod : ∀ x : Int, 0 ≤ x % many ∧ x % many < many := fun x => ⟨Int.emod_nonneg x (by omega), Int.emod_lt_of_pos x h0⟩
    have hdv : ∀ x, CDivW x many := fun x => divW h0 h70
    refine ⟨_, (pss_cons (ps_if (pt_cmpR op_gt (pe_ix (ixl K rfl) (pv 0) pe_int (fun _ _ => rfl)) pe_int (nomark _)) (pss_cons (ps_asg (pe_op op_mod (pe_callTy call_int1 (by rfl) T.z_int (by decide +kernel) (pa_cons (pe_ix (ixl K rfl) (pv 0) pe_int (fun _ _ => rfl)) pa_nil)) (pv 1)) (pg_name (i := 2) sc__law_taken.nd rfl (Or.inl rfl)))
      (pss_cons (ps_asg (pe_op op_fdivW (pe_ix (ixl K rfl) (pv 0) pe_int (fun _ _ => rfl)) (pv 1)) (pg_sub (pv 0) pe_int set_list))
      (pss_one (ps_ret (pv 2))))) pss_nil)
      (pss_cons (ps_asg (pe_op op_add (pe_ix (ixl K rfl) (pv 0) pe_int (fun _ _ => rfl)) pe_int) (pg_sub (pv 0) pe_int set_list))
      (pss_cons (ps_if (pt_cmpR op_gt (pe_ix (ixl K rfl) (pv 0) pe_int (fun _ _ => rfl)) (pe_callB (lenS K rfl) (by rfl) T.z_len (by decide +kernel) (pa_cons (pe_ix (ixl K rfl) (pv 0) pe_int (fun _ _ => rfl)) pa_nil)) (nomark _)) (pss_cons (ps_asg (pe_op op_mod (pe_callTy call_int1 (by rfl) T.z_int (by decide +kernel) (pa_cons (pe_op op_add (pe_op op_mul (pe_ix (ixl K rfl) (pv 0) pe_int (fun _ _ => rfl)) pe_int) pe_int) pa_nil)) pe_int) (pg_sub (pv 0) pe_int set_list))
      (pss_one (ps_ret (pe_op op_mod (pe_callTy call_int1 (by rfl) T.z_int (by decide +kernel) (pa_cons (pe_op op_fdivW (pe_ix (ixl K rfl) (pv 0) pe_int (fun _ _ => rfl)) pe_int) pa_nil)) (pv 1))))) pss_nil)
      (pss_cons (ps_asg (pe_ix (ixl K rfl) (pe_ix (ixl K rfl) (pv 0) pe_int (fun _ _ => rfl)) (pe_op op_sub (pe_ix (ixl K rfl) (pv 0) pe_int (fun _ _ => rfl)) pe_int) (fun _ _ => rfl)) (pg_name (i := 3) sc__law_taken.nd rfl (Or.inl rfl)))
      (pss_cons (ps_asg (pe_op op_mod (pe_callTy call_int1 (by rfl) T.z_int (by decide +kernel) (pa_cons (pe_op op_add (pe_op op_add (pe_op op_mul (pe_ix (ixl K rfl) (pv 0) pe_int (fun _ _ => rfl)) pe_int) (pv 3)) pe_int) pa_nil)) pe_int) (pg_sub (pv 0) pe_int set_list))
      (pss_cons (ps_if (pt_cmpR op_ge (pv 3) (pe_op op_pow pe_int pe_int) (nomark _)) (pss_one (ps_asg (pe_op op_fdivW (pv 3) (pv 1)) (pg_sub (pv 0) pe_int set_list))) pss_nil)
      (pss_one (ps_ret (pe_op op_mod (pe_callTy call_int1 (by rfl) T.z_int (by decide +kernel) (pa_cons (pv 3) pa_nil)) (pv 1)))))))))), ?_⟩
    rw [show start N__law_taken [V.ref row, V.int many] = [some (V.ref row), some (V.int many), none, none] from rfl]
    walk_at "sx"
    refine ix3 h1 ?_
    walk_at "sx"
    have h7 : ∀ x, CDivW x 7 := fun x => ⟨by decide, by decide +kernel⟩
    have hC : ∀ x, CMul x 48271 := fun x => .inr ⟨by decide, by decide⟩
    by_cases hp : 0 < rest
    · rw [if_pos (decide_eq_true hp)]
      refine ix3 h1 ?_
      refine .inl ⟨rest, rfl, h0, ix3 h1 ⟨rest, rfl, hdv _, st3 h1 ?_⟩⟩
      exact q _ _ (Ox.refl row H).upd ⟨pos, st, _, upd_same, h2, (Ox.refl row H).upd.sl h2 h3⟩ (hmod _)
    · rw [if_neg (by rw [decide_eq_true_eq]; exact hp)]
      refine ix1 h1 ⟨_, rfl, st1 h1 ?_⟩
      have o1 := (Ox.refl row H).upd (o := .lst [.ref sc, .int ((pos : Int) + 1), .int st, .int rest])
      have g1 : (L2.upd H row (.lst [.ref sc, .int ((pos : Int) + 1), .int st, .int rest])) row = some (.lst [.ref sc, .int ((pos : Int) + 1), .int st, .int rest]) := upd_same
      generalize (L2.upd H row (.lst [.ref sc, .int ((pos : Int) + 1), .int st, .int rest])) = H1 at o1 g1 ⊢
      have s1 := o1.sl h2 h3
      refine ix1 g1 (ix0 g1 ⟨sc, _, rfl, .inl s1, _, rfl, _, rfl, ?_⟩)
      rw [List.length_map]
      by_cases hl : (xs.length : Int) < (pos : Int) + 1
      · rw [if_pos (decide_eq_true hl)]
        refine ix2 g1 ⟨_, rfl, hC _, .inl ⟨by decide, st2 g1 ?_⟩⟩
        have o2 := o1.upd (o := .lst [.ref sc, .int ((pos : Int) + 1), .int ((st * 48271 + 11) % 2147483647), .int rest])
        have g2 : (L2.upd H1 row (.lst [.ref sc, .int ((pos : Int) + 1), .int ((st * 48271 + 11) % 2147483647), .int rest])) row = some (.lst [.ref sc, .int ((pos : Int) + 1), .int ((st * 48271 + 11) % 2147483647), .int rest]) := upd_same
        generalize (L2.upd H1 row (.lst [.ref sc, .int ((pos : Int) + 1), .int ((st * 48271 + 11) % 2147483647), .int rest])) = H2 at o2 g2 ⊢
        refine ix2 g2 ⟨_, rfl, h7 _, .inl ⟨h0, ?_⟩⟩
        exact q _ _ o2 ⟨pos + 1, _, _, g2, h2, o2.sl h2 h3⟩ (hmod _)
      · rw [if_neg (by rw [decide_eq_true_eq]; exact hl)]
        have hlt : pos < xs.length := by omega
        refine ix0 g1 (ix1 g1 ⟨_, rfl, ?_⟩)
        refine ixI s1 (by omega) (by omega) ?_
        generalize xs.getD ((pos : Int) + 1 - 1).toNat 0 = cell
        refine ix2 g1 ⟨_, rfl, hC _, _, rfl, .inl ⟨by decide, st2 g1 ?_⟩⟩
        have o2 := o1.upd (o := .lst [.ref sc, .int ((pos : Int) + 1), .int ((st * 48271 + cell + 11) % 2147483647), .int rest])
        have g2 : (L2.upd H1 row (.lst [.ref sc, .int ((pos : Int) + 1), .int ((st * 48271 + cell + 11) % 2147483647), .int rest])) row = some (.lst [.ref sc, .int ((pos : Int) + 1), .int ((st * 48271 + cell + 11) % 2147483647), .int rest]) := upd_same
        generalize (L2.upd H1 row (.lst [.ref sc, .int ((pos : Int) + 1), .int ((st * 48271 + cell + 11) % 2147483647), .int rest])) = H2 at o2 g2 ⊢
        refine ⟨⟨by decide, by decide, by decide⟩, _, rfl, ?_⟩
        split
        · refine ⟨_, rfl, hdv _, st3 g2 ?_⟩
          exact .inl ⟨_, rfl, h0, q _ _ o2.upd ⟨pos + 1, _, _, upd_same, h2, o2.upd.sl h2 h3⟩ (hmod _)⟩
        · exact .inl ⟨_, rfl, h0, q _ _ o2 ⟨pos + 1, _, _, g2, h2, o2.sl h2 h3⟩ (hmod _)⟩
/-! ### _law_pick -/
def sp_pick (K : PySem.W.Frag) : Sp := fun vs H Q _ => ∃ (row t sc : Addr) (xs : List Int) (things : List V), vs = [.ref row, .ref t] ∧ RowAt K H row sc xs ∧ H t = some (.lst things) ∧ t ≠ row ∧ 0 < things.length ∧ things.length ≤ 100 ∧ ∀ x ∈ things, ∀ H', Ox row H H' → RowAt K H' row sc xs → Q x H'
theorem ok_pick (T : Txt K mg) : FnOk P w K mg base CX0 2 T.f__law_pick T.d__law_pick ["_law_row", "_law_things"] (sp_pick K) := by
  have G__law_taken : FnOk P w K mg base CX0 1 T.f__law_taken T.d__law_taken ["_law_row", "_law_many"] (sp_taken K) := ok_taken T
  refine T.F__law_pick.ok sc__law_pick (fun vs H Q E h => ?_) (fun cdv A outer s H vs Q E hr h => ?_)
  · obtain ⟨row, t, sc, xs, things, rfl, _⟩ := h
    rfl
  · obtain ⟨row, t, sc, xs, things, rfl, hR, ht, hn, h0, h100, q⟩ := h
    refine ⟨_, (pss_one (ps_ret (pe_ix (ixl K rfl) (pv 1) (pe_call G__law_taken (hr.mono (by decide)) (by rfl) T.g__law_taken T.F__law_taken.kp T.b__law_taken .nil pass0 (pa_cons (pv 0) (pa_cons (pe_callB (lenS K rfl) (by rfl) T.z_len (by decide +kernel) (pa_cons (pv 1) pa_nil)) pa_nil))) (fun _ _ => rfl)))), ?_⟩
    rw [show start N__law_pick [V.ref row, V.ref t] = [some (V.ref row), some (V.ref t)] from rfl]
    walk_at "sx"
    refine ⟨t, _, rfl, .inl (SqL.of ht), row, sc, xs, (things.length : Int), rfl, hR, by omega, by omega, fun r H' o hR' hr2 => ?_⟩
    have hx : r.toNat < things.length := by omega
    refine ⟨t, things, r, things[r.toNat], rfl, rfl, SqL.of (o _ _ hn ht), ?_, q _ (List.getElem_mem hx) _ o hR'⟩
    unfold atI ixN
    rw [if_pos hr2.1, if_pos hr2.2]
    exact List.getElem?_eq_getElem hx
/-! ### _law_some_rule -/
theorem wpR {σ : L2.St} {H1 : Hp} {t : TT} {row sc : Addr} {xs : List Int} {Q : VK} (j : Nat) (vs : List Nat) (lo : Int) (n : Nat) (hn : n ≤ 1000) (hR : RowAt K H1 row sc xs) (hj : ∀ x, ((wipe σ vs).set j (some x))[j]? = some (some x)) (hw : ∀ x, wipe ((wipe σ vs).set j (some x)) vs = wipe σ vs)
    (ht : ∀ (i : Nat) H2 (Qk : Bool → Hp → Prop), i < n → RowAt K H2 row sc xs → (∀ b H3, Ox row H2 H3 → RowAt K H3 row sc xs → Qk b H3) → t ((wipe σ vs).set j (some (.int (lo + i)))) H2 Qk)
    (q : ∀ (D : Addr) (l : List Int) H', D ≠ row → H1 D = none → Ox row H1 H' → RowAt K H' row sc xs → H' D = some (.lst (l.map V.int)) → l.Pairwise (· < ·) → (∀ x ∈ l, lo ≤ x ∧ x < lo + n) → l.length ≤ n → Q (.ref D) H') :
    ∀ D, H1 D = none → ∃ W : Nat → Nat → Hp → Prop, (∃ m, W 0 m (L2.upd H1 D (.lst []))) ∧ ∀ i m H, W i m H →
      ((Itr lo n).stop i H ∧ Q (.ref D) H) ∨ ((Itr lo n).go i H ∧ ∃ Nx : Hp → Prop, (∀ H', Nx H' → ∃ m', m' < m ∧ W (i + 1) m' H') ∧ ∀ x H', (Itr lo n).yld i H x H' → gName j x (wipe σ vs) H' fun σ2 H2 => wipe σ2 vs = wipe σ vs ∧ t σ2 H2 fun b H3 =>
        if b = true then tVar j σ2 H3 fun y H4 => ∃ acc, H4 D = some (.lst acc) ∧ acc.length < sizeLine ∧ Nx (L2.upd H4 D (.lst (acc ++ [y]))) else Nx H3) := fun D hD => by
  have hDr : D ≠ row := by
    obtain ⟨_, h1⟩ := hR.some_
    exact fun e => by rw [e, h1] at hD; cases hD
  refine lc_range (lo := lo) (n := n) (Qd := fun H => Q (.ref D) H) (fun i H' => ∃ l : List Int, Ox row H1 H' ∧ RowAt K H' row sc xs ∧ H' D = some (.lst (l.map V.int)) ∧ l.Pairwise (· < ·) ∧ (∀ x ∈ l, lo ≤ x ∧ x < lo + i) ∧ l.length ≤ i) ⟨[], Ox.ex (Evl.Ex.new hD), hR.ex (Evl.Ex.new hD), upd_same, List.Pairwise.nil, (fun _ h => nomatch h), Nat.le_refl _⟩ ?_ ?_
  · rintro i H' hi ⟨l, o, hR', hl, hp, hm, hlen⟩
    refine ⟨hw _, ht i H' _ hi hR' fun b H3 o3 hR3 => ?_⟩
    have hl3 := o3 _ _ hDr hl
    have o13 := o.trans o3
    cases b with
    | false => exact ⟨l, o13, hR3, hl3, hp, fun x hx => by have := hm x hx; omega, by omega⟩
    | true =>
      refine ⟨_, hj _, _, hl3, ?_, l ++ [lo + i], o13.mut hD, hR.mut o13 hR3 hD, by rw [upd_same, List.map_append]; rfl, ?_, ?_, ?_⟩
      · rw [List.length_map]
        have : sizeLine = 16777216 := by decide
        omega
      · rw [List.pairwise_append]
        exact ⟨hp, List.pairwise_singleton _ _, fun x hx y hy => by rw [List.mem_singleton.mp hy]; exact (hm x hx).2⟩
      · intro x hx
        rcases List.mem_append.mp hx with hx | hx
        · have := hm x hx; omega
        · rw [List.mem_singleton.mp hx]; omega
      · rw [List.length_append, List.length_singleton]; omega
  · rintro H' ⟨l, o, hR', hl, hp, hm, hlen⟩
    exact q D l H' hDr hD o hR' hl hp hm hlen
theorem wlR2 {σ : L2.St} {H1 : Hp} {t : TT} {row sc : Addr} {xs : List Int} {Q : VK} (j : Nat) (vs : List Nat) (lo hi : Int) (n : Nat) (hn : n ≤ 1000) (hlo : -1000 ≤ lo ∧ lo ≤ 1000) (hhi : hi = lo + n) (hR : RowAt K H1 row sc xs) (hj : ∀ x, ((wipe σ vs).set j (some x))[j]? = some (some x)) (hw : ∀ x, wipe ((wipe σ vs).set j (some x)) vs = wipe σ vs)
    (ht : ∀ (i : Nat) H2 (Qk : Bool → Hp → Prop), i < n → RowAt K H2 row sc xs → (∀ b H3, Ox row H2 H3 → RowAt K H3 row sc xs → Qk b H3) → t ((wipe σ vs).set j (some (.int (lo + i)))) H2 Qk)
    (q : ∀ (D : Addr) (l : List Int) H', D ≠ row → H1 D = none → Ox row H1 H' → RowAt K H' row sc xs → H' D = some (.lst (l.map V.int)) → l.Pairwise (· < ·) → (∀ x ∈ l, lo ≤ x ∧ x < lo + n) → l.length ≤ n → Q (.ref D) H') :
    tLc (iRng2 (tCons (tC (.int lo)) (tCons (tC (.int hi)) tNil))) (gName j) t (tVar j) vs σ H1 Q := by
  refine ⟨lo, hi, rfl, by omega, ?_⟩
  rw [show (hi - lo).toNat = n by omega]
  exact wpR j vs lo n hn hR hj hw ht q
theorem wlR1 {σ : L2.St} {H1 : Hp} {t : TT} {row sc : Addr} {xs : List Int} {Q : VK} (j : Nat) (vs : List Nat) (n : Nat) (hn : n ≤ 1000) (hR : RowAt K H1 row sc xs) (hj : ∀ x, ((wipe σ vs).set j (some x))[j]? = some (some x)) (hw : ∀ x, wipe ((wipe σ vs).set j (some x)) vs = wipe σ vs)
    (ht : ∀ (i : Nat) H2 (Qk : Bool → Hp → Prop), i < n → RowAt K H2 row sc xs → (∀ b H3, Ox row H2 H3 → RowAt K H3 row sc xs → Qk b H3) → t ((wipe σ vs).set j (some (.int (0 + i)))) H2 Qk)
    (q : ∀ (D : Addr) (l : List Int) H', D ≠ row → H1 D = none → Ox row H1 H' → RowAt K H' row sc xs → H' D = some (.lst (l.map V.int)) → l.Pairwise (· < ·) → (∀ x ∈ l, 0 ≤ x ∧ x < 0 + n) → l.length ≤ n → Q (.ref D) H') :
    tLc (iRng1 (tCons (tC (.int (n : Int))) tNil)) (gName j) t (tVar j) vs σ H1 Q := by
  refine ⟨n, rfl, by omega, by omega, ?_⟩
  rw [show (n : Int).toNat = n by omega]
  exact wpR j vs 0 n hn hR hj hw ht q
def sp_some_rule (K : PySem.W.Frag) : Sp := fun vs H Q _ => ∃ (row sc : Addr) (xs : List Int), vs = [.ref row] ∧ RowAt K H row sc xs ∧ ∀ r H' bs ss n, Ox row H H' → RowAt K H' row sc xs → RuleH H' r bs ss n → IsRule bs ss n → (∀ x ∈ bs, 2 ≤ x) → Q (.ref r) H'
theorem ok_some_rule (T : Txt K mg) : FnOk P w K mg base CX0 3 T.f__law_some_rule T.d__law_some_rule ["_law_row"] (sp_some_rule K) := by
  have G__law_taken : FnOk P w K mg base CX0 1 T.f__law_taken T.d__law_taken ["_law_row", "_law_many"] (sp_taken K) := ok_taken T
  have G__law_pick : FnOk P w K mg base CX0 2 T.f__law_pick T.d__law_pick ["_law_row", "_law_things"] (sp_pick K) := ok_pick T
  refine T.F__law_some_rule.ok sc__law_some_rule (fun vs H Q E h => ?_) (fun cdv A outer s H vs Q E hr h => ?_)
  · obtain ⟨row, sc, xs, rfl, _⟩ := h
    rfl
  · obtain ⟨row, sc, xs, rfl, hR, q⟩ := h
    refine ⟨_, (pss_cons (ps_asg (pe_call G__law_taken (hr.mono (by decide)) (by rfl) T.g__law_taken T.F__law_taken.kp T.b__law_taken .nil pass0 (pa_cons (pv 0) (pa_cons pe_int pa_nil))) (pg_name (i := 1) sc__law_some_rule.nd rfl (Or.inl rfl)))
      (pss_cons (ps_if (pt_cmpR op_lt (pv 1) pe_int (nomark _)) (pss_one (ps_ret (pe_tup (pa_cons (pe_tup (pa_cons pe_int pa_nil)) (pa_cons (pe_tup (pa_cons pe_int (pa_cons pe_int pa_nil))) (pa_cons pe_int pa_nil)))))) pss_nil)
      (pss_cons (ps_asg (pe_callTy (tupS K rfl) (by rfl) T.z_tuple (by decide +kernel) (pa_cons (pe_lc (own := [("_law_k", 4)]) (by rfl) sc__law_some_rule.nd (pi_range2 (by rfl) T.z_range (pa_cons pe_int (pa_cons pe_int pa_nil))) (blkOk_by (N := N__law_some_rule) (sc := defScope s__law_some_rule) (by decide +kernel)) (fun _ _ _ _ _ => (pg_name (i := 4) sc__law_some_rule.nd rfl (Or.inl rfl))) (fun _ _ _ _ _ => (pts_one (pt_cmpR op_eq (pe_call G__law_taken (hr.mono (by decide)) (by rfl) T.g__law_taken T.F__law_taken.kp T.b__law_taken .nil pass0 (pa_cons (pv 0) (pa_cons pe_int pa_nil))) pe_int (nomark _)))) (fun _ _ _ _ _ => (pv 4))) pa_nil)) (pg_name (i := 2) sc__law_some_rule.nd rfl (Or.inl rfl)))
      (pss_cons (ps_asg (pe_callTy (tupS K rfl) (by rfl) T.z_tuple (by decide +kernel) (pa_cons (pe_lc (own := [("_law_k", 4)]) (by rfl) sc__law_some_rule.nd (pi_range1 (by rfl) T.z_range (pa_cons pe_int pa_nil)) (blkOk_by (N := N__law_some_rule) (sc := defScope s__law_some_rule) (by decide +kernel)) (fun _ _ _ _ _ => (pg_name (i := 4) sc__law_some_rule.nd rfl (Or.inl rfl))) (fun _ _ _ _ _ => (pts_one (pt_cmpR op_eq (pe_call G__law_taken (hr.mono (by decide)) (by rfl) T.g__law_taken T.F__law_taken.kp T.b__law_taken .nil pass0 (pa_cons (pv 0) (pa_cons pe_int pa_nil))) pe_int (nomark _)))) (fun _ _ _ _ _ => (pv 4))) pa_nil)) (pg_name (i := 3) sc__law_some_rule.nd rfl (Or.inl rfl)))
      (pss_one (ps_ret (pe_tup (pa_cons (pv 2) (pa_cons (pv 3) (pa_cons (pe_call G__law_pick (hr.mono (by decide)) (by rfl) T.g__law_pick T.F__law_pick.kp T.b__law_pick .nil pass0 (pa_cons (pv 0) (pa_cons (pe_lst (pa_cons pe_int (pa_cons pe_int (pa_cons pe_int (pa_cons pe_int (pa_cons pe_int pa_nil)))))) pa_nil))) pa_nil)))))))))), ?_⟩
    rw [show start N__law_some_rule [V.ref row] = [some (V.ref row), none, none, none, none] from rfl]
    walk_at "sx"
    refine ⟨row, sc, xs, 6, rfl, hR, by decide, by decide, fun r H1 o1 hR1 hr1 => ?_⟩
    refine ⟨r, rfl, ?_⟩
    split
    · refine ⟨by decide, fun tb htb => ⟨by decide, fun ts hts => ⟨by simp [sizeLine_eq], fun tr htr => ?_⟩⟩⟩
      have e1 : Evl.Ex H1 _ := Evl.Ex.new (o := .tup [V.int 3]) htb
      have e2 : Evl.Ex H1 _ := e1.trans (Evl.Ex.new (o := .tup [V.int 2, V.int 3]) hts)
      have e3 : Evl.Ex H1 _ := e2.trans (Evl.Ex.new (o := .tup [V.ref tb, V.ref ts, V.int 2]) htr)
      have g1 := (Evl.Ex.new (o := .tup [V.int 2, V.int 3]) hts) _ _ (upd_same (H := H1) (a := tb) (o := .tup [V.int 3]))
      have g2 := (Evl.Ex.new (o := .tup [V.ref tb, V.ref ts, V.int 2]) htr) _ _ g1
      have g3 := (Evl.Ex.new (o := .tup [V.ref tb, V.ref ts, V.int 2]) htr) _ _ upd_same
      refine q tr _ [3] [2, 3] 2 (o1.trans (Ox.ex e3)) (hR1.ex e3) ⟨tb, ts, upd_same, g2, g3⟩ ⟨List.pairwise_singleton _ _, by decide, by decide, by decide, by decide, by decide, by decide, by decide⟩ (by decide)
    · refine wlR2 (K := K) (row := row) (sc := sc) (xs := xs) 4 [4] 2 9 7 (by decide) (by decide) (by decide) hR1 (fun _ => rfl) (fun _ => rfl) (fun i H2 Qk hi hR2 hq => ?_) (fun D bs H2 hDr hD o2 hR2 hbD hbp hbm hbl => ?_)
      · show tTest _ [some (V.ref row), some (V.int r), none, none, some (V.int (2 + (i : Int)))] H2 Qk
        walk_at "sx"
        refine ⟨row, sc, xs, 4, rfl, hR2, by decide, by decide, fun r2 H3 o3 hR3 _ => ⟨rfl, hq _ _ o3 hR3⟩⟩
      · refine ⟨D, _, rfl, .inl ⟨SqL.of hbD, fun tb htb => ?_⟩⟩
        have hR3 := hR2.ex (Evl.Ex.new (o := .tup (bs.map V.int)) htb)
        have htbr : tb ≠ row := by
          obtain ⟨_, h1⟩ := hR2.some_
          exact fun e => by rw [e, h1] at htb; cases htb
        have gb : (L2.upd H2 tb (.tup (bs.map V.int))) tb = some (.tup (bs.map V.int)) := upd_same
        have o3 := (o1.trans o2).trans (Ox.ex (Evl.Ex.new (o := .tup (bs.map V.int)) htb))
        generalize (L2.upd H2 tb (.tup (bs.map V.int))) = H3 at hR3 gb o3 ⊢
        refine wlR1 (K := K) (row := row) (sc := sc) (xs := xs) 4 [4] 9 (by decide) hR3 (fun _ => rfl) (fun _ => rfl) (fun i H4 Qk hi hR4 hq => ?_) (fun D2 ss H4 hDr2 hD2 o4 hR4 hsD hsp hsm hsl => ?_)
        · show tTest _ [some (V.ref row), some (V.int r), some (V.ref tb), none, some (V.int (0 + (i : Int)))] H4 Qk
          walk_at "sx"
          refine ⟨row, sc, xs, 3, rfl, hR4, by decide, by decide, fun r2 H5 o5 hR5 _ => ⟨rfl, hq _ _ o5 hR5⟩⟩
        · refine ⟨D2, _, rfl, .inl ⟨SqL.of hsD, fun ts hts => ?_⟩⟩
          have hR5 := hR4.ex (Evl.Ex.new (o := .tup (ss.map V.int)) hts)
          have htsr : ts ≠ row := by
            obtain ⟨_, h1⟩ := hR4.some_
            exact fun e => by rw [e, h1] at hts; cases hts
          have gs : (L2.upd H4 ts (.tup (ss.map V.int))) ts = some (.tup (ss.map V.int)) := upd_same
          have ex45 := Evl.Ex.new (o := .tup (ss.map V.int)) hts
          have gb5 := ex45 _ _ (o4 _ _ htbr gb)
          have o5 := (o3.trans o4).trans (Ox.ex ex45)
          generalize (L2.upd H4 ts (.tup (ss.map V.int))) = H5 at hR5 gs gb5 o5 ⊢
          refine ⟨by decide, fun p hp => ?_⟩
          have hpr : p ≠ row := by
            obtain ⟨_, h1⟩ := hR5.some_
            exact fun e => by rw [e, h1] at hp; cases hp
          have ex6 := Evl.Ex.new (o := .lst [V.int 2, V.int 2, V.int 3, V.int 4, V.int 6]) hp
          refine ⟨row, p, sc, xs, _, rfl, hR5.ex ex6, upd_same, hpr, by decide, by decide, fun x hx H6 o6 hR6 => ?_⟩
          have o56 := (Ox.ex ex6).trans o6
          obtain ⟨n, rfl, hn⟩ : ∃ n, x = V.int n ∧ 2 ≤ n ∧ n ≤ 6 := by
            simp only [List.mem_cons, List.not_mem_nil, or_false] at hx
            rcases hx with rfl | rfl | rfl | rfl | rfl <;> exact ⟨_, rfl, by decide, by decide⟩
          refine ⟨by simp [sizeLine_eq], fun tr htr => ?_⟩
          have e7 := Evl.Ex.new (o := .tup [V.ref tb, V.ref ts, V.int n]) htr
          refine q tr _ bs ss n ((o5.trans o56).trans (Ox.ex e7)) (hR6.ex e7) ⟨tb, ts, upd_same, e7 _ _ (o56 _ _ htbr gb5), e7 _ _ (o56 _ _ htsr gs)⟩ ⟨hbp, fun x hx => by have := hbm x hx; omega, hsp, fun x hx => by have := hsm x hx; omega, hn.1, hn.2, by omega, by omega⟩ fun x hx => (hbm x hx).1

end
end FB

/-! # WD -/
namespace FB
open PySem PySem.Spec PyProof.Rows L2
local macro_rules | `(tactic| walk_at "sx") => `(tactic| simp only [ap_Var, ap_C, ap_Op, ap_Un, ap_I, ap_I0, ap_U, ap_Eq, ap_Ne, ap_If, ap_Test, ap_B, ap_And, ap_Or, ap_Not, ap_AndV, ap_OrV, ap_NotV, ap_Chain, ap_CB, ap_Nil, ap_Cons, ap_Call, ap_Asg, ap_gName, ap_Seq, ap_Next, ap_Cont, ap_Ret, ap_IfS, ap_Par, ap_Par3, ap_Aug, ap_ip, ap_Drop, ap_gTup, ap_gCons, ap_gNil, ap_gSub, ap_Lst, ap_Tup, ap_Yes,
  List.getElem?_cons_zero, List.getElem?_cons_succ, List.set_cons_zero, List.set_cons_succ, Option.some.injEq, V.int.injEq, V.bl.injEq, V.ref.injEq, List.cons.injEq, and_true, true_and, exists_eq_left, exists_eq_left', exists_eq_right, exists_eq_right', exists_and_left, exists_and_right, List.append_nil, if_true, if_false, Bool.false_eq_true, Bool.not_true, Bool.not_false])
local macro_rules | `(tactic| walk_at "ev") => `(tactic| (intro H1 e1 Q1 q1; walk_at "sx"; exact q1 _ (Evl.Ex.refl _)))
section
variable {P : Program} {w : World} {K : PySem.W.Frag} {mg : Str → Option Value} {base : Heap}
/-! ### _law_around -/
abbrev PP := Int × Int
def aroA (x y a : Int) (l : List Int) : List PP := (l.filter fun b => decide (a ≠ 0) || decide (b ≠ 0)).map fun b => (x + a, y + b)
def around (p : PP) : List PP := [-1, 0, 1].flatMap fun a => aroA p.1 p.2 a [-1, 0, 1]
def twoV (p : PP) : List V := [.int p.1, .int p.2]
def Twos (H : Hp) (ts : List Addr) (ps : List PP) : Prop := Paired (fun t p => H t = some (.tup (twoV p))) ts ps
theorem Twos.ex {H H' : Hp} {ts : List Addr} {ps : List PP} (e : Evl.Ex H H') (h : Twos H ts ps) : Twos H' ts ps := Paired.mapP h fun _ _ q => e _ _ q
def sp_around (K : PySem.W.Frag) : Sp := fun vs H Q _ => ∃ (t : Addr) (p : PP), vs = [.ref t] ∧ SqT K H t (twoV p) ∧ ∀ l ts H', Evl.Ex H H' → H l = none → H' l = some (.lst (ts.map V.ref)) → Twos H' ts (around p) → Q (.ref l) H'
theorem tk1 {α : Type} {l : List α} {i : Nat} {x : α} (h : l[i]? = some x) : l.take (i + 1) = l.take i ++ [x] := by
  rw [List.take_add_one, h]
  rfl
theorem threes {i : Nat} {x : V} (h : ([V.int (-1), V.int 0, V.int 1] : List V)[i]? = some x) : ∃ a : Int, x = V.int a ∧ ([-1, 0, 1] : List Int)[i]? = some a ∧ i < 3 := by
  match i, h with
  | 0, h => exact ⟨-1, (Option.some.inj h).symm, rfl, by decide⟩
  | 1, h => exact ⟨0, (Option.some.inj h).symm, rfl, by decide⟩
  | 2, h => exact ⟨1, (Option.some.inj h).symm, rfl, by decide⟩
theorem ap_BM {T : String} {r : V → List V → Hp → VK → Prop} {ta : TE} {tar : TA} {σ : L2.St} {H : Hp} {Q : VK} : True := trivial
theorem ok_around (T : Txt K mg) : FnOk P w K mg base CX0 1 T.f__law_around T.d__law_around ["_law_place"] (sp_around K) := by
  refine T.F__law_around.ok sc__law_around (fun vs H Q E h => ?_) (fun cdv A outer s H vs Q E hr h => ?_)
  · obtain ⟨t, p, rfl, _⟩ := h
    rfl
  · obtain ⟨t, p, rfl, hT, q⟩ := h
    refine ⟨_, (pss_cons (ps_asg (pe_lst pa_nil) (pg_name (i := 1) sc__law_around.nd rfl (Or.inl rfl)))
      (pss_cons (ps_for PassesOwn.never rfl (piL K rfl (pe_lst (pa_cons (pe_un un_neg pe_int) (pa_cons pe_int (pa_cons pe_int pa_nil))))) (pg_name (i := 2) sc__law_around.nd rfl (Or.inl rfl)) (pss_one (ps_for PassesOwn.never rfl (piL K rfl (pe_lst (pa_cons (pe_un un_neg pe_int) (pa_cons pe_int (pa_cons pe_int pa_nil))))) (pg_name (i := 3) sc__law_around.nd rfl (Or.inl rfl)) (pss_one (ps_if (PW.pt (pw_or (pt_cmpR op_ne (pv 2) pe_int (nomark _)) (pw_or1 (pt_cmpR op_ne (pv 3) pe_int (nomark _))))) (pss_one (ps_expr (pe_bm PySem.F.plainAttrs_list PySem.F.slot_list_append PySem.F.type_list_append mt_append (pv 1) (pa_cons (pe_tup (pa_cons (pe_op op_add (pe_ix (ixt K rfl) (pv 0) pe_int (fun _ _ => rfl)) (pv 2)) (pa_cons (pe_op op_add (pe_ix (ixt K rfl) (pv 0) pe_int (fun _ _ => rfl)) (pv 3)) pa_nil))) pa_nil)))) pss_nil)))))
      (pss_one (ps_ret (pv 1))))), ?_⟩
    rw [show start N__law_around [V.ref t] = [some (V.ref t), none, none, none] from rfl]
    walk_at "sx"
    refine ⟨by decide, fun F hF => ?_⟩
    have e1 : Evl.Ex H (upd H F (.lst [])) := Evl.Ex.new hF
    have hF1 : (upd H F (.lst [])) F = some (.lst []) := upd_same
    generalize (upd H F (.lst [])) = H1 at e1 hF1 ⊢
    have hlst : ∀ σ H, Evl.EvL (tLst (tCons (tUn (rU fun i => V.int (-i)) (tC (V.int 1))) (tCons (tC (V.int 0)) (tCons (tC (V.int 1)) tNil)))) σ H [V.int (-1), V.int 0, V.int 1] := fun σ H H0 e Q q => by
      walk_at "sx"
      exact ⟨by simp [sizeLine_eq], fun p hp => q p _ hp (Evl.Ex.new hp) upd_same⟩
    refine Evl.s_forNL (K := K) (xs := [V.int (-1), V.int 0, V.int 1]) (hlst _ _) (fun A i σ H' => ∃ (ts : List Addr) (y2 y3 : Option V), σ = [some (V.ref t), some (V.ref F), y2, y3] ∧ Evl.Ex H H' ∧ H' A = some (.lst [V.int (-1), V.int 0, V.int 1]) ∧ A ≠ F ∧
        H' F = some (.lst (ts.map V.ref)) ∧ Twos H' ts ((([-1, 0, 1] : List Int).take i).flatMap fun a => aroA p.1 p.2 a [-1, 0, 1]) ∧ ts.length ≤ 3 * i) ?_ (fun A i σ' H' _ ⟨_, _, _, _, _, h, _⟩ => SqL.of h) ?_ ?_
    · intro A H2 hA e2 hA2
      exact ⟨[], none, none, rfl, e1.trans e2, hA2, (fun z => by rw [z, hF1] at hA; cases hA), e2 _ _ hF1, .nil, Nat.zero_le _⟩
    · rintro A i x _ H2 hx ⟨ts, y2, y3, rfl, e2, hA, hAF, hF2, hTs, hlen⟩
      obtain ⟨a, rfl, ha, hi3⟩ := threes hx
      rw [ap_gName]
      simp only [List.set_cons_zero, List.set_cons_succ]
      refine Evl.s_forNL (K := K) (xs := [V.int (-1), V.int 0, V.int 1]) (hlst _ _) (fun A2 j σ H' => ∃ (ts : List Addr) (y3 : Option V), σ = [some (V.ref t), some (V.ref F), some (V.int a), y3] ∧ Evl.Ex H H' ∧ H' A = some (.lst [V.int (-1), V.int 0, V.int 1]) ∧ H' A2 = some (.lst [V.int (-1), V.int 0, V.int 1]) ∧ A2 ≠ F ∧
          H' F = some (.lst (ts.map V.ref)) ∧ Twos H' ts ((([-1, 0, 1] : List Int).take i).flatMap (fun a => aroA p.1 p.2 a [-1, 0, 1]) ++ aroA p.1 p.2 a (([-1, 0, 1] : List Int).take j)) ∧ ts.length ≤ 3 * i + j) ?_ (fun A i σ' H' _ ⟨_, _, _, _, _, h, _⟩ => SqL.of h) ?_ ?_
      · intro A2 H3 hA2 e3 hA3
        exact ⟨ts, y3, rfl, e2.trans e3, e3 _ _ hA, hA3, (fun z => by rw [z, hF2] at hA2; cases hA2), e3 _ _ hF2, by rw [List.take_zero]; show Twos _ _ (_ ++ []); rw [List.append_nil]; exact hTs.ex e3, hlen⟩
      · rintro A2 j x _ H3 hx ⟨ts, y3, rfl, e3, hA3, hA23, hA2F, hF3, hTs, hlen⟩
        obtain ⟨b, rfl, hb, hj3⟩ := threes hx
        rw [ap_gName]
        simp only [List.set_cons_zero, List.set_cons_succ]
        have hsplit : aroA p.1 p.2 a (([-1, 0, 1] : List Int).take (j + 1)) = aroA p.1 p.2 a (([-1, 0, 1] : List Int).take j) ++ (if (decide (a ≠ 0) || decide (b ≠ 0)) = true then [(p.1 + a, p.2 + b)] else []) := by
          unfold aroA
          rw [tk1 hb, List.filter_append, List.map_append]
          congr 1
          rw [List.filter_cons]
          split <;> rfl
        rw [hsplit]
        refine s_ifD (k := decide (a ≠ 0) || decide (b ≠ 0)) ?_ (fun hk H4 e4 => ?_) (fun hk H4 e4 => ?_)
        · intro H5 e5 Q5 q5
          walk_at "sx"
          refine ⟨rfl, ?_⟩
          by_cases h0 : a = 0
          · subst h0
            rw [if_neg (by decide)]
            refine ⟨rfl, ?_⟩
            have := q5 H5 (Evl.Ex.refl _)
            by_cases hb0 : b = 0
            · subst hb0; exact this
            · rw [show (decide ((0 : Int) ≠ 0) || decide (b ≠ 0)) = true by simp [hb0]] at this
              rw [show (!decide (b = 0)) = true by simp [hb0]]
              exact this
          · have := q5 H5 (Evl.Ex.refl _)
            rw [show (decide (a ≠ 0) || decide (b ≠ 0)) = true by simp [h0]] at this
            rw [if_pos (by simp [h0])]
            exact this
        · rw [if_pos hk]
          refine Evl.s_appU (l := F) (xs := ts.map V.ref) (ys := twoV (p.1 + a, p.2 + b)) (e4 _ _ hF3) (by walk_at "ev") ?_ (by rw [List.length_map]; omega) fun q2 H5 hq2 e5 h5 => ?_
          · intro H5 e5 Q5 q5
            walk_at "sx"
            have hT5 := Evl.ex_t ((e3.trans e4).trans e5) hT
            refine ⟨t, twoV p, 0, _, rfl, rfl, hT5, rfl, _, rfl, t, twoV p, 1, _, rfl, rfl, hT5, rfl, _, rfl, by simp [sizeLine_eq], fun q2 hq2 => q5 q2 _ hq2 (Evl.Ex.new hq2) upd_same⟩
          · have nq : q2 ≠ F := fun z => by rw [z, e4 _ _ hF3] at hq2; cases hq2
            have hF0 : H F = none := hF
            have ex6 : Evl.Ex H (upd H5 F (.lst (ts.map V.ref ++ [.ref q2]))) := ((e3.trans e4).trans e5).mut hF0
            refine ⟨ts ++ [q2], some (V.int b), rfl, ex6, ?_, ?_, hA2F, ?_, ?_, ?_⟩
            · rw [upd_ne hAF]; exact (e4.trans e5) _ _ hA3
            · rw [upd_ne hA2F]; exact (e4.trans e5) _ _ hA23
            · rw [upd_same, List.map_append]; rfl
            · have k1 := hTs.ex (e4.trans e5)
              have k2 : Twos H5 (ts ++ [q2]) ((((([-1, 0, 1] : List Int).take i).flatMap fun a => aroA p.1 p.2 a [-1, 0, 1]) ++ aroA p.1 p.2 a (([-1, 0, 1] : List Int).take j)) ++ [(p.1 + a, p.2 + b)]) := Paired.snoc k1 h5
              rw [List.append_assoc] at k2
              have hF5 : H5 F = some (.lst (ts.map V.ref)) := (e4.trans e5) _ _ hF3
              exact Paired.mapP k2 fun u v (hu : H5 u = some (.tup (twoV v))) => by rw [upd_ne (ne_of hu hF5 (by intro z; cases z))]; exact hu
            · rw [List.length_append, List.length_singleton]; omega
        · rw [if_neg (by rw [hk]; decide), List.append_nil]
          exact ⟨ts, some (V.int b), rfl, e3.trans e4, e4 _ _ hA3, e4 _ _ hA23, hA2F, e4 _ _ hF3, hTs.ex e4, by omega⟩
      · rintro A2 _ H3 ⟨ts, y3, rfl, e3, hA3, hA23, hA2F, hF3, hTs, hlen⟩
        refine ⟨ts, _, _, rfl, e3, hA3, hAF, hF3, ?_, ?_⟩
        · rw [tk1 ha, List.flatMap_append]
          simpa [List.take] using hTs
        · have : ([V.int (-1), V.int 0, V.int 1] : List V).length = 3 := rfl
          omega
    · rintro A _ H2 ⟨ts, y2, y3, rfl, e2, hA, hAF, hF2, hTs, hlen⟩
      walk_at "sx"
      exact q F ts H2 e2 hF hF2 hTs

end
end FB

/-! # WE -/
namespace FB
open PySem PySem.Spec PyProof.Rows L2
local macro_rules | `(tactic| walk_at "sx") => `(tactic| simp only [ap_Var, ap_C, ap_Op, ap_Un, ap_I, ap_I0, ap_U, ap_Eq, ap_Ne, ap_If, ap_Test, ap_B, ap_And, ap_Or, ap_Not, ap_AndV, ap_OrV, ap_NotV, ap_Chain, ap_CB, ap_Nil, ap_Cons, ap_Call, ap_Asg, ap_gName, ap_Seq, ap_Next, ap_Cont, ap_Ret, ap_IfS, ap_Par, ap_Par3, ap_Aug, ap_ip, ap_Drop, ap_gTup, ap_gCons, ap_gNil, ap_gSub, ap_Lst, ap_Tup, ap_Yes,
  List.getElem?_cons_zero, List.getElem?_cons_succ, List.set_cons_zero, List.set_cons_succ, Option.some.injEq, V.int.injEq, V.bl.injEq, V.ref.injEq, List.cons.injEq, and_true, true_and, exists_eq_left, exists_eq_left', exists_eq_right, exists_eq_right', exists_and_left, exists_and_right, List.append_nil, if_true, if_false, Bool.false_eq_true, Bool.not_true, Bool.not_false])
local macro_rules | `(tactic| walk_at "ev") => `(tactic| (intro H1 e1 Q1 q1; walk_at "sx"; exact q1 _ (Evl.Ex.refl _)))
section
variable {P : Program} {w : World} {K : PySem.W.Frag} {mg : Str → Option Value} {base : Heap}
/-! ### _law_step -/
def key (p : PP) : List L2.Key := [Sum.inl p.1, Sum.inl p.2]
theorem key_inj {p q : PP} (h : key p = key q) : p = q := by
  unfold key at h
  injection h with h1 h2
  injection h2 with h3 _
  exact Prod.ext (Sum.inl.inj h1) (Sum.inl.inj h3)
theorem key_iff {p q : PP} : key p = key q ↔ p = q := ⟨key_inj, fun h => h ▸ rfl⟩
def encP (v : V) (ps : List PP) : List (List L2.Key × V) := ps.map fun p => (key p, v)
theorem any_encP (v : V) (p : PP) : ∀ ps : List PP, ((encP v ps).any fun kv => decide (kv.1 = key p)) = decide (p ∈ ps)
  | [] => by simp [encP]
  | q :: r => by
    have ih := any_encP v p r
    unfold encP at ih ⊢
    rw [List.map_cons, List.any_cons, ih]
    by_cases h : q = p
    · subst h; simp
    · have h2 : ¬ key q = key p := fun e => h (key_inj e)
      have h3 : ¬ p = q := fun e => h e.symm
      simp [h2, h3]
theorem putK_encP (v : V) (ps : List PP) (p : PP) : putK (encP v ps) (key p) v = encP v (if p ∈ ps then ps else ps ++ [p]) := by
  unfold putK
  rw [any_encP]
  by_cases h : p ∈ ps
  · rw [if_pos (decide_eq_true h), if_pos h]
    unfold encP
    rw [List.map_map]
    refine List.map_congr_left fun q _ => ?_
    show (if key q = key p then (key q, v) else (key q, v)) = (key q, v)
    split <;> rfl
  · rw [if_neg (by rw [decide_eq_true_eq]; exact h), if_neg h]
    unfold encP
    rw [List.map_append]
    rfl
theorem val_encP (v : V) (p : PP) : ∀ ps : List PP, valV (encP v ps) (key p) = if p ∈ ps then some v else none
  | [] => by simp [encP, valV]
  | q :: r => by
    have ih := val_encP v p r
    unfold encP valV at ih ⊢
    rw [List.map_cons, List.find?_cons]
    by_cases h : q = p
    · subst h; simp
    · have h2 : ¬ key q = key p := fun e => h (key_inj e)
      have h3 : ¬ p = q := fun e => h e.symm
      simp only [h2, decide_false, List.mem_cons, h3, false_or]
      exact ih
def nearM (S : List PP) (p : PP) : Int := (((around p).filter fun q => decide (q ∈ S)).length : Int)
def newM (bs ss : List Int) (n : Int) (S : List PP) (p : PP) : Int := if p ∈ S then (if nearM S p ∈ ss then 1 else if 2 < n then 2 else 0) else (if nearM S p ∈ bs then 1 else 0)
def stepL (bs ss : List Int) (n : Int) (S places : List PP) : List Cell := (places.filter fun p => decide (0 < newM bs ss n S p)).map fun p => (p.1, p.2, newM bs ss n S p)
def onesOf (S : List PP) : List Cell := S.map fun p => (p.1, p.2, 1)
def Placed (S places : List PP) : Prop := places.Pairwise (fun a b => SrtO.lexB a b = true) ∧ ∀ p, p ∈ places ↔ p ∈ S ∨ ∃ c ∈ S, p ∈ around c
def sp_step (K : PySem.W.Frag) : Sp := fun vs H Q _ => ∃ (r t : Addr) (bs ss : List Int) (n : Int) (S : List PP), vs = [.ref r, .ref t] ∧ RuleAt K H r bs ss n ∧ CellsAt K H t (onesOf S) ∧ S.Nodup ∧ S.length ≤ 100 ∧
  ∀ q H' places, Evl.Ex H H' → Placed S places → CellsAt K H' q (stepL bs ss n S places) → Q (.ref q) H'
theorem ap_DGet2S {td ty tx : TE} {σ : L2.St} {H : Hp} {Q : VK} : tDGet2 td ty tx σ H Q = td σ H fun x H1 => ∃ a, x = .ref a ∧ IsD H1 a ∧ ty σ H1 fun y H2 => tx σ H2 fun z H3 => ∃ o, DGet H3 a y o ∧ Q (o.getD z) H3 := rfl
theorem ap_Sl {r : V → Option Int → Option Int → Hp → VK → Prop} {i : Nat} {te : TE} {σ : L2.St} {H : Hp} {Q : VK} : tSl r (tVar i) tNoPart (tPart te) σ H Q = (∃ v, σ[i]? = some (some v) ∧ te σ H fun x H1 => ∃ k, x = .int k ∧ r v none (some k) H1 Q) := rfl
theorem pgetL {α β : Type} {F : α → β → Prop} : ∀ {l₁ : List α} {l₂ : List β} {j : Nat} {x : α}, Paired F l₁ l₂ → l₁[j]? = some x → ∃ y, l₂[j]? = some y ∧ F x y
  | _, _, j, x, Paired.nil, h => by simp at h
  | _, _, 0, x, Paired.cons (b := y) f _, h => by
    simp only [List.getElem?_cons_zero] at h
    cases h
    exact ⟨y, rfl, f⟩
  | _, _, j + 1, x, Paired.cons _ t, h => by
    simp only [List.getElem?_cons_succ] at h
    obtain ⟨y, h1, h2⟩ := pgetL t h
    exact ⟨y, by rw [List.getElem?_cons_succ]; exact h1, h2⟩
theorem one_cell {K : PySem.W.Frag} {H : Hp} {ts : List Addr} {S : List PP} {i : Nat} {x : V} (h : Paired (fun t c => SqT K H t (cellV c)) ts (onesOf S)) (hx : (ts.map V.ref)[i]? = some x) : ∃ (u : Addr) (p : PP), x = .ref u ∧ S[i]? = some p ∧ SqT K H u [.int p.1, .int p.2, .int 1] := by
  rw [List.getElem?_map] at hx
  cases hu : ts[i]? with
  | none => rw [hu] at hx; cases hx
  | some u =>
    rw [hu] at hx
    obtain ⟨c, hc, hs⟩ := pgetL h hu
    unfold onesOf at hc
    rw [List.getElem?_map] at hc
    cases hp : S[i]? with
    | none => rw [hp] at hc; cases hc
    | some p =>
      rw [hp] at hc
      obtain rfl := Option.some.inj hc
      exact ⟨u, p, (Option.some.inj hx).symm, rfl, hs⟩
theorem cut2 {K : PySem.W.Frag} {H : Hp} {c : Addr} {Q : VK} {x y z : Int} (h : SqT K H c [.int x, .int y, .int z]) (q : ∀ p, H p = none → Q (.ref p) (upd H p (.tup (twoV (x, y))))) : rSlT K (.ref c) none (some 2) H Q :=
  ⟨c, _, rfl, h, by show ¬ (0 = 0 ∧ 2 = 3); decide, q⟩
theorem lcCells {H : Hp} {r t : Addr} {S : List PP} {Q : VK} {ts : List Addr} (hT : SqT K H t (ts.map V.ref)) (hC : Paired (fun t c => SqT K H t (cellV c)) ts (onesOf S)) (h100 : S.length ≤ 100)
    (q : ∀ a (es : List DE) H', Evl.Ex H H' → H a = none → H' a = some (.lst (es.map fun e => V.ref e.1)) → (∀ e ∈ es, H' e.1 = some (.tup [.ref e.2.1, e.2.2.2]) ∧ H' e.2.1 = some (.tup (e.2.2.1.map kV))) → es.map (fun e => e.2.2) = encP (.int 1) S → Q (.ref a) H') :
    tLc (iTup K (tVar 1)) (gName 2) tYes (tTup (tCons (tSl (rSlT K) (tVar 2) tNoPart (tPart (tC (V.int 2)))) (tCons (tOp (rIxT K) (tVar 2) (tC (V.int 2))) tNil))) [2]
      [some (V.ref r), some (V.ref t), none, none, none, none, none, none, none, none, none] H Q := by
  have hl : ts.length = S.length := by
    have := Paired.length hC
    unfold onesOf at this
    rwa [List.length_map] at this
  refine ⟨_, rfl, t, rfl, ⟨_, hT⟩, fun D hD => ?_⟩
  refine lc_tup (K := K) (a := t) (xs := ts.map V.ref) (Qd := fun H => Q (.ref D) H) (fun i H' => ∃ es : List DE, Evl.Ex H H' ∧ H' D = some (.lst (es.map fun e => V.ref e.1)) ∧ (∀ e ∈ es, H' e.1 = some (.tup [.ref e.2.1, e.2.2.2]) ∧ H' e.2.1 = some (.tup (e.2.2.1.map kV))) ∧ es.map (fun e => e.2.2) = encP (.int 1) (S.take i))
    ⟨[], Evl.Ex.new hD, upd_same, (fun _ h => nomatch h), rfl⟩ (fun i H' _ ⟨_, e, _⟩ => Evl.ex_t e hT) (fun i x H' hx ⟨es, e, hD2, hes, hm⟩ => ?_) (fun H' ⟨es, e, hD2, hes, hm⟩ => ?_)
  · obtain ⟨u, p, rfl, hp, hu⟩ := one_cell hC hx
    have hu := Evl.ex_t e hu
    have hi : i < S.length := (List.getElem?_eq_some_iff.mp hp).1
    have hlen : es.length ≤ 100 := by
      have := congrArg List.length hm
      unfold encP at this
      rw [List.length_map, List.length_map, List.length_take] at this
      omega
    rw [ap_gName, show (wipe [some (V.ref r), some (V.ref t), none, none, none, none, none, none, none, none, none] [2]).set 2 (some (V.ref u)) = [some (V.ref r), some (V.ref t), some (V.ref u), none, none, none, none, none, none, none, none] from rfl]
    refine ⟨rfl, ?_⟩
    walk_at "sx"
    simp only [ap_Sl]
    walk_at "sx"
    refine cut2 hu fun k hk => ?_
    have hu2 := Evl.ex_t (Evl.Ex.new (o := .tup (twoV (p.1, p.2))) hk) hu
    refine ⟨u, _, 2, _, rfl, rfl, hu2, rfl, by simp [sizeLine_eq], fun m hm2 => ?_⟩
    have e3 := (Evl.Ex.new (o := .tup (twoV (p.1, p.2))) hk).trans (Evl.Ex.new (o := .tup [V.ref k, V.int 1]) hm2)
    have gk := (Evl.Ex.new (o := .tup [V.ref k, V.int 1]) hm2) k _ upd_same
    have gm : (upd (upd H' k (.tup (twoV (p.1, p.2)))) m (.tup [V.ref k, V.int 1])) m = some (.tup [V.ref k, V.int 1]) := upd_same
    generalize (upd (upd H' k (.tup (twoV (p.1, p.2)))) m (.tup [V.ref k, V.int 1])) = H3 at e3 gk gm ⊢
    have hD3 := e3 _ _ hD2
    refine ⟨_, hD3, by rw [List.length_map]; exact Nat.lt_of_le_of_lt hlen (by decide), (e.trans e3).mut hD, es ++ [(m, k, key p, .int 1)], ?_, ?_, ?_⟩
    · rw [upd_same, List.map_append]; rfl
    · intro x hx
      have nt : ∀ {a : Addr} {xs : List V}, H3 a = some (.tup xs) → (upd H3 D (.lst (es.map (fun e => V.ref e.1) ++ [V.ref m]))) a = some (.tup xs) := fun {a xs} ha => by
        rw [upd_ne (ne_of ha hD3 (by intro z; cases z))]; exact ha
      rcases List.mem_append.mp hx with hx | hx
      · obtain ⟨h1, h2⟩ := hes x hx
        exact ⟨nt (e3 _ _ h1), nt (e3 _ _ h2)⟩
      · obtain rfl := List.mem_singleton.mp hx
        exact ⟨nt gm, nt gk⟩
    · rw [List.map_append, hm, tk1 hp]
      unfold encP
      rw [List.map_append]
      rfl
  · rw [List.length_map, hl, List.take_length] at hm
    exact q D es H' e hD hD2 hes hm
theorem around_len (p : PP) : (around p).length = 8 := rfl
def addP (ps : List PP) (p : PP) : List PP := if p ∈ ps then ps else ps ++ [p]
theorem addP_nd {ps : List PP} (p : PP) (h : ps.Nodup) : (addP ps p).Nodup := by
  unfold addP
  split
  · exact h
  · rename_i hp
    exact List.nodup_append.mpr ⟨h, List.nodup_cons.mpr ⟨by simp, List.nodup_nil⟩, fun a ha b hb e => hp (by rw [List.mem_singleton.mp hb] at e; exact e ▸ ha)⟩
theorem addP_mem (ps : List PP) (p x : PP) : x ∈ addP ps p ↔ x ∈ ps ∨ x = p := by
  unfold addP
  split
  · rename_i hp
    exact ⟨.inl, fun h => h.elim id fun e => e ▸ hp⟩
  · rw [List.mem_append, List.mem_singleton]
theorem addP_len (ps : List PP) (p : PP) : (addP ps p).length ≤ ps.length + 1 := by
  unfold addP
  split
  · omega
  · rw [List.length_append, List.length_singleton]; omega
section
variable {σ : L2.St} {H : Hp} {R : It → Hp → Prop}
theorem it_aroundS {i : Nat} {u : Addr} {x y z : Int} (hσ : σ[i]? = some (some (.ref u))) (hu : SqT K H u [.int x, .int y, .int z]) (q : ∀ l ts H', Evl.Ex H H' → H l = none → H' l = some (.lst (ts.map V.ref)) → Twos H' ts (around (x, y)) → R (Itl K l) H') :
    iList K (tCall (sp_around K) [] E0 (tCons (tSl (rSlT K) (tVar i) tNoPart (tPart (tC (V.int 2)))) tNil)) σ H R := by
  unfold iList
  simp only [ap_Call, ap_Cons, ap_Nil, ap_Sl, hσ]
  refine ⟨_, rfl, ?_⟩
  refine ⟨2, rfl, cut2 hu fun k hk => ?_⟩
  have e := Evl.Ex.new (o := .tup (twoV (x, y))) hk
  exact ⟨k, (x, y), rfl, SqT.of upd_same, fun l ts H' e2 hl hl2 hT => ⟨l, rfl, ⟨_, SqL.of hl2⟩, q l ts H' (e.trans e2) (Evl.fresh_back e hl) hl2 hT⟩⟩
theorem it_around {i : Nat} {u : Addr} {p : PP} (hσ : σ[i]? = some (some (.ref u))) (hu : SqT K H u (twoV p)) (q : ∀ l ts H', Evl.Ex H H' → H l = none → H' l = some (.lst (ts.map V.ref)) → Twos H' ts (around p) → R (Itl K l) H') :
    iList K (tCall (sp_around K) [] E0 (tCons (tVar i) tNil)) σ H R := by
  unfold iList
  simp only [ap_Call, ap_Cons, ap_Nil, ap_Var, hσ]
  refine ⟨_, rfl, ?_⟩
  exact ⟨u, p, rfl, hu, fun l ts H' e2 hl hl2 hT => ⟨l, rfl, ⟨_, SqL.of hl2⟩, q l ts H' e2 hl hl2 hT⟩⟩
theorem it_sorted {K' : PySem.W.Frag} {i : Nat} {F : Addr} {ps : List PP} (hσ : σ[i]? = some (some (.ref F))) (hF : H F = some (.dT (encP (.bl true) ps))) (hnd : ps.Nodup)
    (q : ∀ l (ys : List (Addr × PP)) H', Evl.Ex H H' → H l = none → H' l = some (.lst (ys.map fun y => V.ref y.1)) → (∀ y ∈ ys, H' y.1 = some (.tup (twoV y.2))) → (ys.map (·.2)).Pairwise (fun a b => SrtO.lexB a b = true) → (∀ p, p ∈ ys.map (·.2) ↔ p ∈ ps) → ys.length = ps.length → R (Itl K l) H') :
    iList K (tCB rSortKT (tCons (tBM0 K' "dict" rKeysT (tVar i)) tNil)) σ H R := by
  have ex2 : ∀ {te : TE} {Q : VK}, tBM0 K' "dict" rKeysT te σ H Q = te σ H fun x H1 => tyV K' "dict" x H1 ∧ rKeysT x [] H1 Q := rfl
  unfold iList
  simp only [ap_CB, ap_Cons, ap_Nil, ex2, ap_Var, hσ]
  refine ⟨_, rfl, .inr (.inr (.inl ⟨rfl, .inr ⟨_, hF⟩⟩)), F, _, rfl, rfl, hF, fun pk hpk => ?_⟩
  have e := Evl.Ex.new (o := keysO pk F) hpk
  refine ⟨pk, F, ps.map fun p => (p, .bl true), rfl, upd_same, ?_, fun l ys hys hperm hpw hl => ?_⟩
  · rw [List.map_map]
    exact e _ _ hF
  have e2 := Evl.Ex.new (o := .lst (ys.map fun y => V.ref y.1)) hl
  rw [List.map_map] at hperm
  have hid : ps.map ((fun x : PP × V => x.1) ∘ fun p => (p, V.bl true)) = ps := List.map_id' ps
  rw [hid] at hperm
  have hnd2 : (ys.map (·.2)).Nodup := hperm.nodup_iff.mpr hnd
  refine ⟨l, rfl, ⟨_, SqL.of upd_same⟩, q l ys _ (e.trans e2) (Evl.fresh_back e hl) upd_same (fun y hy => e2 _ _ (hys y hy)) ?_ (fun p => hperm.mem_iff) (by have := hperm.length_eq; rwa [List.length_map] at this)⟩
  refine (List.pairwise_and_iff.mpr ⟨hpw, hnd2⟩).imp fun {a b} h => ?_
  rw [SrtO.lexB_iff]
  have h1 := h.1
  have h2 : ¬ (a.1 = b.1 ∧ a.2 = b.2) := fun z => h.2 (Prod.ext z.1 z.2)
  have h3 : ¬ (b.1 < a.1 ∨ (b.1 = a.1 ∧ b.2 < a.2)) := fun z => by rw [SrtO.lexB_iff.mpr z] at h1; cases h1
  omega
end
theorem filter_getD {α : Type} (f : α → Bool) (d : α) (l : List α) : ((List.range l.length).filter fun i => f (l.getD i d)).length = (l.filter f).length := by
  have h : (List.range l.length).map (fun i => l.getD i d) = l := by
    apply List.ext_getElem?
    intro i
    rw [List.getElem?_map]
    by_cases hi : i < l.length
    · rw [List.getElem?_range hi, List.getElem?_eq_getElem hi, Option.map_some, List.getD_eq_getElem?_getD, List.getElem?_eq_getElem hi]
      rfl
    · rw [List.getElem?_eq_none (by rw [List.length_range]; omega), List.getElem?_eq_none (by omega)]
      rfl
  have h2 := congrArg (fun l => (l.filter f).length) h
  rw [List.filter_map, List.length_map] at h2
  exact h2
theorem lcNear {H : Hp} {Q : VK} {S : List PP} {C u : Addr} {p : PP} {z0 z1 z2 z4 z5 z7 z8 z9 z10 : Option V} (hC : H C = some (.dT (encP (.int 1) S))) (hu : SqT K H u (twoV p))
    (q : ∀ D xs H', Evl.Ex H H' → H D = none → H' D = some (.lst xs) → (xs.length : Int) = nearM S p → Q (.ref D) H') :
    tLc (iList K (tCall (sp_around K) [] E0 (tCons (tVar 6) tNil))) (gName 10) (tTest (tOp rEq (tDGet2 (tVar 3) (tVar 10) (tC (V.int 0))) (tC (V.int 1)))) (tC (V.int 1)) [10]
      [z0, z1, z2, some (V.ref C), z4, z5, some (V.ref u), z7, z8, z9, z10] H Q := by
  refine it_around rfl hu fun l ts H1 e1 hl hl1 hTs D hD => ?_
  have hlen : ts.length = 8 := by have := Paired.length hTs; rwa [around_len] at this
  refine lc_list (K := K) (a := l) (xs := ts.map V.ref) (Qd := fun H => Q (.ref D) H) (Evl.Cw H1 (fun i => decide ((around p).getD i (0, 0) ∈ S)) (fun _ => V.int 1) D) ⟨hD, Evl.Ex.new hD, upd_same⟩ (fun i H' _ c => Evl.ex_l c.2.1 (SqL.of hl1)) (fun i x H' hx c => ?_) (fun H' c => ?_)
  · rw [List.getElem?_map] at hx
    obtain ⟨v, hv, rfl⟩ : ∃ v, ts[i]? = some v ∧ x = V.ref v := by
      cases hq : ts[i]? with
      | none => rw [hq] at hx; cases hx
      | some v => rw [hq] at hx; exact ⟨v, rfl, (Option.some.inj hx).symm⟩
    obtain ⟨p2, hp2, hv2⟩ := pgetL hTs hv
    have hi : i < ts.length := (List.getElem?_eq_some_iff.mp hv).1
    rw [ap_gName, show (wipe [z0, z1, z2, some (V.ref C), z4, z5, some (V.ref u), z7, z8, z9, z10] [10]).set 10 (some (V.ref v)) = [z0, z1, z2, some (V.ref C), z4, z5, some (V.ref u), z7, z8, z9, some (V.ref v)] from rfl]
    refine ⟨rfl, Evl.cw_turn c (by omega) ?_ fun hf => ?_⟩
    · intro H2 e2 Q2 q2
      simp only [ap_Test, ap_Op, ap_DGet2S]
      walk_at "sx"
      have hv3 : H2 v = some (.tup ((key p2).map kV)) := e2 _ _ hv2
      refine ⟨.inr ⟨_, .inl ((e1.trans e2) _ _ hC)⟩, _, DGet.t ((e1.trans e2) _ _ hC) hv3, ?_⟩
      have hq := q2 H2 (Evl.Ex.refl _)
      rw [List.getD_eq_getElem?_getD, hp2] at hq
      rw [val_encP]
      by_cases hm : p2 ∈ S
      · rw [if_pos hm]
        rw [show decide (((some p2).getD (0, 0)) ∈ S) = true from decide_eq_true hm] at hq
        exact ⟨rfl, hq⟩
      · rw [if_neg hm]
        rw [show decide (((some p2).getD (0, 0)) ∈ S) = false from decide_eq_false hm] at hq
        exact ⟨rfl, hq⟩
    · intro H2 e2 Q2 q2
      exact q2 H2 (Evl.Ex.refl _)
  · refine q D _ H' (e1.trans c.2.1) (Evl.fresh_back e1 c.1) c.2.2 ?_
    unfold Evl.given nearM
    rw [List.length_map, List.length_map, hlen, ← around_len p]
    exact congrArg (fun n : Nat => (n : Int)) (filter_getD (fun q => decide (q ∈ S)) (0, 0) (around p))
theorem ok_step (T : Txt K mg) : FnOk P w K mg base CX0 2 T.f__law_step T.d__law_step ["_law_rule", "_law_board"] (sp_step K) := by
  have G__law_around : FnOk P w K mg base CX0 1 T.f__law_around T.d__law_around ["_law_place"] (sp_around K) := ok_around T
  refine T.F__law_step.ok sc__law_step (fun vs H Q E h => ?_) (fun cdv A outer s H vs Q E hr h => ?_)
  · obtain ⟨r, t, bs, ss, n, S, rfl, _⟩ := h
    rfl
  · obtain ⟨r, t, bs, ss, n, S, rfl, hR, hC, hnd, h100, q⟩ := h
    have hu := hu_of hr
    refine ⟨_, (pss_cons (ps_asg (pe_tup (pa_cons (pe_callTy (call_dictPT K rfl (by rfl) hr.units) (by rfl) T.z_dict (by decide +kernel) (pa_cons (pe_lc (own := [("_law_cell", 2)]) (by rfl) sc__law_step.nd (piT K rfl (pv 1)) (blkOk_by (N := N__law_step) (sc := defScope s__law_step) (by decide +kernel)) (fun _ _ _ _ _ => (pg_name (i := 2) sc__law_step.nd rfl (Or.inl rfl))) (fun _ _ _ _ _ => pts_nil) (fun _ _ _ _ _ => (pe_tup (pa_cons (pe_slice (slT K rfl) (pv 2) po_none (po_some pe_int)) (pa_cons (pe_ix (ixt K rfl) (pv 2) pe_int (fun _ _ => rfl)) pa_nil))))) pa_nil)) (pa_cons pe_dnewT (pa_cons (pe_lst pa_nil) pa_nil)))) (pgT (n := 3) K rfl (by rfl) (pgs_cons (pg_name (i := 3) sc__law_step.nd rfl (Or.inr rfl)) (pgs_cons (pg_name (i := 4) sc__law_step.nd rfl (Or.inl rfl)) (pgs_cons (pg_name (i := 5) sc__law_step.nd rfl (Or.inl rfl)) pgs_nil)))))
      (pss_cons (ps_for PassesOwn.never rfl (piT K rfl (pv 1)) (pg_name (i := 2) sc__law_step.nd rfl (Or.inl rfl)) (pss_cons (ps_dput hu (pv 4) (pe_slice (slT K rfl) (pv 2) po_none (po_some pe_int)) pe_bl (by rfl))
      (pss_one (ps_for PassesOwn.never rfl (piL K rfl (pe_call G__law_around (hr.mono (by decide)) (by rfl) T.g__law_around T.F__law_around.kp T.b__law_around .nil pass0 (pa_cons (pe_slice (slT K rfl) (pv 2) po_none (po_some pe_int)) pa_nil))) (pg_name (i := 6) sc__law_step.nd rfl (Or.inl rfl)) (pss_one (ps_dput hu (pv 4) (pv 6) pe_bl (by rfl)))))))
      (pss_cons (ps_for PassesOwn.never rfl (piL K rfl (pe_callB (cr_sortedKT (by rfl)) (by rfl) T.z_sorted (by decide +kernel) (pa_cons (pe_bm0 PySem.F.plainAttrs_dict PySem.F.slot_dict_keys PySem.F.type_dict_keys mt_keysT (pv 4)) pa_nil))) (pg_name (i := 6) sc__law_step.nd rfl (Or.inl rfl)) (pss_cons (ps_asg (pe_callB (lenS K rfl) (by rfl) T.z_len (by decide +kernel) (pa_cons (pe_lc (own := [("_law_one", 10)]) (by rfl) sc__law_step.nd (piL K rfl (pe_call G__law_around (hr.mono (by decide)) (by rfl) T.g__law_around T.F__law_around.kp T.b__law_around .nil pass0 (pa_cons (pv 6) pa_nil))) (blkOk_by (N := N__law_step) (sc := defScope s__law_step) (by decide +kernel)) (fun _ _ _ _ _ => (pg_name (i := 10) sc__law_step.nd rfl (Or.inl rfl))) (fun _ _ _ _ _ => (pts_one (pt_cmpR op_eq (pe_dget2 hu (pv 3) (pv 10) pe_int ⟨by rfl, by rfl, by rfl, by rfl⟩) pe_int (nomark _)))) (fun _ _ _ _ _ => pe_int)) pa_nil)) (pg_name (i := 7) sc__law_step.nd rfl (Or.inl rfl)))
      (pss_cons (ps_asg (pe_dget2 hu (pv 3) (pv 6) pe_int ⟨by rfl, by rfl, by rfl, by rfl⟩) (pg_name (i := 8) sc__law_step.nd rfl (Or.inl rfl)))
      (pss_cons (ps_if (pt_cmpR op_eq (pv 8) pe_int (nomark _)) (pss_one (ps_asg (pe_ifExp (pt_cmpR (ins K rfl) (pv 7) (pe_ix (ixt K rfl) (pv 0) pe_int (fun _ _ => rfl)) (by rfl)) pe_int pe_int) (pg_name (i := 9) sc__law_step.nd rfl (Or.inl rfl)))) (pss_one (ps_if (PW.pt (pw_and (pt_cmpR op_eq (pv 8) pe_int (nomark _)) (pw_and1 (pt_cmpR (ins K rfl) (pv 7) (pe_ix (ixt K rfl) (pv 0) pe_int (fun _ _ => rfl)) (by rfl))))) (pss_one (ps_asg pe_int (pg_name (i := 9) sc__law_step.nd rfl (Or.inl rfl)))) (pss_one (ps_asg (pe_ifExp (pt_cmpR op_lt (pe_op op_add (pv 8) pe_int) (pe_ix (ixt K rfl) (pv 0) pe_int (fun _ _ => rfl)) (nomark _)) (pe_op op_add (pv 8) pe_int) pe_int) (pg_name (i := 9) sc__law_step.nd rfl (Or.inl rfl)))))))
      (pss_one (ps_asg (pe_ifExp (pt_cmpR op_gt (pv 9) pe_int (nomark _)) (pe_op op_cat (pv 5) (pe_lst (pa_cons (pe_op (catT K rfl) (pv 6) (pe_tup (pa_cons (pv 9) pa_nil))) pa_nil))) (pv 5)) (pg_name (i := 5) sc__law_step.nd rfl (Or.inl rfl))))))))
      (pss_one (ps_ret (pe_callTy (tupS K rfl) (by rfl) T.z_tuple (by decide +kernel) (pa_cons (pv 5) pa_nil))))))), ?_⟩
    rw [show start N__law_step [V.ref r, V.ref t] = [some (V.ref r), some (V.ref t), none, none, none, none, none, none, none, none, none] from rfl]
    walk_at "sx"
    obtain ⟨ts, hT, hP⟩ := hC
    refine lcCells hT hP h100 fun a es H1 e1 ha0 ha hes hm => ?_
    have hkeys : es.map (fun e => e.2.2.1) = S.map key := by
      have := congrArg (List.map Prod.fst) hm
      unfold encP at this
      rw [List.map_map, List.map_map] at this
      exact this
    refine ⟨a, es, rfl, SqL.of ha, hes, ?_, fun C hC => ?_⟩
    · rw [show (es.map (·.2.2.1)) = S.map key from hkeys]
      exact List.pairwise_map.mpr (hnd.imp fun {a b} h e => h (key_inj e))
    have hCd : (.dT (es.map fun e => (e.2.2.1, e.2.2.2)) : HO) = .dT (encP (.int 1) S) := by
      rw [← hm]
    rw [hCd]
    have e2 := e1.trans (Evl.Ex.new (o := .dT (encP (.int 1) S)) hC)
    have gC : (upd H1 C (.dT (encP (.int 1) S))) C = some (.dT (encP (.int 1) S)) := upd_same
    generalize (upd H1 C (.dT (encP (.int 1) S))) = H2 at e2 gC ⊢
    intro F hF
    refine ⟨by decide, fun G hG => ?_⟩
    have hF0 : H F = none := Evl.fresh_back e2 hF
    have nCF : C ≠ F := fun z => by rw [← z, gC] at hF; cases hF
    have e3 := (e2.trans (Evl.Ex.new (o := .dT []) hF)).trans (Evl.Ex.new (o := .lst []) hG)
    have gC3 := ((Evl.Ex.new (o := .dT []) hF).trans (Evl.Ex.new (o := .lst []) hG)) _ _ gC
    have gF3 := (Evl.Ex.new (o := .lst []) hG) F _ upd_same
    have gG3 : (upd (upd H2 F (.dT [])) G (.lst [])) G = some (.lst []) := upd_same
    generalize (upd (upd H2 F (.dT [])) G (.lst [])) = H3 at e3 gC3 gF3 gG3 ⊢
    refine ⟨by simp [sizeLine_eq], fun U hU => ⟨_, SqT.of upd_same, rfl, _, _, rfl, _, _, rfl, _, _, rfl, rfl, ?_⟩⟩
    have eU := Evl.Ex.new (o := .tup [V.ref C, V.ref F, V.ref G]) hU
    have e4 := e3.trans eU
    have gC4 := eU _ _ gC3
    have gF4 := eU _ _ gF3
    have gG4 := eU _ _ gG3
    generalize (upd H3 U (.tup [V.ref C, V.ref F, V.ref G])) = H4 at e4 gC4 gF4 gG4 ⊢
    have hFG : F ≠ G := ne_of gF4 gG4 (by intro z; cases z)
    have hl : ts.length = S.length := by
      have := Paired.length hP
      unfold onesOf at this
      rwa [List.length_map] at this
    refine Evl.s_forT (K := K) (a := t) (xs := ts.map V.ref) (by walk_at "ev") (Evl.ex_t e4 hT) (fun i σ H' => ∃ (ps : List PP) (y2 y6 : Option V), σ = [some (V.ref r), some (V.ref t), y2, some (V.ref C), some (V.ref F), some (V.ref G), y6, none, none, none, none] ∧ Evl.Ex H H' ∧
      H' C = some (.dT (encP (.int 1) S)) ∧ H' G = some (.lst []) ∧ H' F = some (.dT (encP (.bl true) ps)) ∧ ps.Nodup ∧ (∀ p, p ∈ ps ↔ ∃ c ∈ S.take i, p = c ∨ p ∈ around c) ∧ ps.length ≤ 9 * i) ?_ (fun i σ' H' _ ⟨_, _, _, _, e, _⟩ => Evl.ex_t e hT) ?_ ?_
    · intro H5 e5
      exact ⟨[], none, none, rfl, e4.trans e5, e5 _ _ gC4, e5 _ _ gG4, e5 _ _ gF4, List.nodup_nil, fun p => by simp, Nat.zero_le _⟩
    · rintro i x _ H5 hx ⟨ps, y2, y6, rfl, e5, gC5, gG5, gF5, hnd5, hmem, hlen⟩
      obtain ⟨u, p, rfl, hp, hu⟩ := one_cell hP hx
      have hi : i < S.length := (List.getElem?_eq_some_iff.mp hp).1
      rw [ap_gName]
      simp only [List.set_cons_zero, List.set_cons_succ]
      rw [ap_Seq, ap_DPut]
      walk_at "sx"
      simp only [ap_Sl]
      walk_at "sx"
      have hu5 := Evl.ex_t e5 hu
      refine cut2 hu5 fun k hk => ?_
      have e6 := Evl.Ex.new (o := .tup (twoV (p.1, p.2))) hk
      have gk : (upd H5 k (.tup (twoV (p.1, p.2)))) k = some (.tup ((key p).map kV)) := upd_same
      have gF6 := e6 _ _ gF5
      have hsz : ∀ ps : List PP, ps.length ≤ 1000 → (encP (.bl true) ps).length < sizeLine := fun ps h => by
        unfold encP
        rw [List.length_map]
        exact Nat.lt_of_le_of_lt h (by decide)
      refine ⟨_, DPut.t gF6 gk (hsz ps (by omega)), ?_⟩
      rw [putK_encP]
      have e7 : Evl.Ex H (upd (upd H5 k (.tup (twoV (p.1, p.2)))) F (.dT (encP (.bl true) (addP ps p)))) := (e5.trans e6).mut hF0
      have gC7 : (upd (upd H5 k (.tup (twoV (p.1, p.2)))) F (.dT (encP (.bl true) (addP ps p)))) C = some (.dT (encP (.int 1) S)) := by rw [upd_ne nCF]; exact e6 _ _ gC5
      have gG7 : (upd (upd H5 k (.tup (twoV (p.1, p.2)))) F (.dT (encP (.bl true) (addP ps p)))) G = some (.lst []) := by rw [upd_ne (Ne.symm hFG)]; exact e6 _ _ gG5
      have gF7 : (upd (upd H5 k (.tup (twoV (p.1, p.2)))) F (.dT (encP (.bl true) (addP ps p)))) F = some (.dT (encP (.bl true) (addP ps p))) := upd_same
      show tFor _ _ _ _ _ (upd (upd H5 k (.tup (twoV (p.1, p.2)))) F (.dT (encP (.bl true) (addP ps p))))
      generalize (upd (upd H5 k (.tup (twoV (p.1, p.2)))) F (.dT (encP (.bl true) (addP ps p)))) = H7 at e7 gC7 gG7 gF7 ⊢
      refine it_aroundS rfl (Evl.ex_t e7 hu) fun l us H8 e8 hl8 hl88 hUs => ?_
      have hul : us.length = 8 := by have := Paired.length hUs; rwa [around_len] at this
      refine for_list (K := K) (a := l) (xs := us.map V.ref) (fun j σ H' => ∃ (ps2 : List PP) (y6 : Option V), σ = [some (V.ref r), some (V.ref t), some (V.ref u), some (V.ref C), some (V.ref F), some (V.ref G), y6, none, none, none, none] ∧ Evl.Ex H H' ∧ H' l = some (.lst (us.map V.ref)) ∧ Twos H' us (around p) ∧
        H' C = some (.dT (encP (.int 1) S)) ∧ H' G = some (.lst []) ∧ H' F = some (.dT (encP (.bl true) ps2)) ∧ ps2.Nodup ∧ (∀ x, x ∈ ps2 ↔ (∃ c ∈ S.take i, x = c ∨ x ∈ around c) ∨ x = p ∨ x ∈ (around p).take j) ∧ ps2.length ≤ 9 * i + 1 + j) ?_ (fun j σ' H' _ ⟨_, _, _, _, h, _⟩ => SqL.of h) ?_ ?_
      · refine ⟨addP ps p, _, rfl, e7.trans e8, hl88, hUs, e8 _ _ gC7, e8 _ _ gG7, e8 _ _ gF7, addP_nd p hnd5, fun x => ?_, by have := addP_len ps p; omega⟩
        rw [addP_mem, hmem, List.take_zero]
        simp
      · rintro j x _ H9 hx ⟨ps2, y6, rfl, e9, gl9, gU9, gC9, gG9, gF9, hnd9, hmem9, hlen9⟩
        rw [List.getElem?_map] at hx
        obtain ⟨v, hv, rfl⟩ : ∃ v, us[j]? = some v ∧ x = V.ref v := by
          cases hq : us[j]? with
          | none => rw [hq] at hx; cases hx
          | some v => rw [hq] at hx; exact ⟨v, rfl, (Option.some.inj hx).symm⟩
        obtain ⟨p2, hp2, hv2⟩ := pgetL gU9 hv
        have hj : j < us.length := (List.getElem?_eq_some_iff.mp hv).1
        rw [ap_gName]
        simp only [List.set_cons_zero, List.set_cons_succ]
        rw [ap_DPut]
        walk_at "sx"
        have hv3 : H9 v = some (.tup ((key p2).map kV)) := hv2
        refine ⟨_, DPut.t gF9 hv3 (hsz ps2 (by omega)), ?_⟩
        rw [putK_encP]
        have nF : ∀ {a : Addr} {o : HO}, H9 a = some o → (∀ k, o ≠ .dT k) → (upd H9 F (.dT (encP (.bl true) (addP ps2 p2)))) a = some o := fun {a o} ha hn => by
          rw [upd_ne (ne_of ha gF9 (hn _))]; exact ha
        refine ⟨e9.mut hF0, nF gl9 (fun k z => by cases z), Paired.mapP gU9 fun a b h => nF h (fun k z => by cases z), by show (upd H9 F (.dT (encP (.bl true) (addP ps2 p2)))) C = _; rw [upd_ne nCF]; exact gC9, nF gG9 (fun k z => by cases z), addP ps2 p2, upd_same, addP_nd _ hnd9, fun x => ?_, by have := addP_len ps2 p2; omega⟩
        rw [addP_mem, hmem9, tk1 hp2, List.mem_append, List.mem_singleton]
        constructor
        · rintro ((h | h | h) | h)
          · exact .inl h
          · exact .inr (.inl h)
          · exact .inr (.inr (.inl h))
          · exact .inr (.inr (.inr h))
        · rintro (h | h | h | h)
          · exact .inl (.inl h)
          · exact .inl (.inr (.inl h))
          · exact .inl (.inr (.inr h))
          · exact .inr h
      · rintro _ H9 ⟨ps2, y6, rfl, e9, gl9, gU9, gC9, gG9, gF9, hnd9, hmem9, hlen9⟩
        rw [List.length_map, hul] at hmem9 hlen9
        refine ⟨⟨_, _, rfl⟩, e9, gC9, gG9, ps2, gF9, hnd9, fun x => ?_, by omega⟩
        rw [hmem9, tk1 hp, show (around p).take 8 = around p from List.take_of_length_le (by rw [around_len]; omega)]
        constructor
        · rintro (⟨c, h1, h2⟩ | h | h)
          · exact ⟨c, List.mem_append.mpr (.inl h1), h2⟩
          · exact ⟨p, List.mem_append.mpr (.inr (List.mem_singleton.mpr rfl)), .inl h⟩
          · exact ⟨p, List.mem_append.mpr (.inr (List.mem_singleton.mpr rfl)), .inr h⟩
        · rintro ⟨c, h1, h2⟩
          rcases List.mem_append.mp h1 with h1 | h1
          · exact .inl ⟨c, h1, h2⟩
          · obtain rfl := List.mem_singleton.mp h1
            exact .inr h2
    · rintro _ H5 ⟨ps, y2, y6, rfl, e5, gC5, gG5, gF5, hnd5, hmem, hlen⟩
      rw [List.length_map, hl] at hmem hlen
      rw [List.take_length] at hmem
      dsimp only
      rw [ap_Seq]
      refine it_sorted rfl gF5 hnd5 fun l ys H6 e6 hl0 hl6 hys hpw hmem2 hylen => ?_
      obtain ⟨b, sd, hr1, hb1, hs1⟩ := hR
      refine for_list (K := K) (a := l) (xs := ys.map fun y => V.ref y.1) (fun i σ H' => ∃ (G' : Addr) (vs : List Addr) (y6 y7 y8 y9 : Option V), σ = [some (V.ref r), some (V.ref t), y2, some (V.ref C), some (V.ref F), some (V.ref G'), y6, y7, y8, y9, none] ∧ Evl.Ex H6 H' ∧
        H' G' = some (.lst (vs.map V.ref)) ∧ Paired (fun t c => H' t = some (.tup (cellV c))) vs (stepL bs ss n S ((ys.take i).map (·.2)))) ?_ (fun i σ' H' _ ⟨_, _, _, _, _, _, _, e, _⟩ => SqL.of (e _ _ hl6)) ?_ ?_
      · exact ⟨G, [], _, _, _, _, rfl, Evl.Ex.refl _, e6 _ _ gG5, .nil⟩
      · rintro i x _ H7 hx ⟨G', vs, y6, y7, y8, y9, rfl, e7, hG', hvs⟩
        rw [List.getElem?_map] at hx
        obtain ⟨⟨v, p⟩, hy, rfl⟩ : ∃ y, ys[i]? = some y ∧ x = V.ref y.1 := by
          cases hq : ys[i]? with
          | none => rw [hq] at hx; cases hx
          | some v => rw [hq] at hx; exact ⟨v, rfl, (Option.some.inj hx).symm⟩
        have hv := hys _ (List.mem_of_getElem? hy)
        have hi : i < ys.length := (List.getElem?_eq_some_iff.mp hy).1
        rw [ap_gName]
        simp only [List.set_cons_zero, List.set_cons_succ]
        walk_at "sx"
        have e57 := e6.trans e7
        refine lcNear (e57 _ _ gC5) (SqT.of (e7 _ _ hv)) fun D xs H8 e8 hD hD8 hxl => ?_
        refine ⟨D, xs, rfl, .inl (SqL.of hD8), ?_⟩
        rw [hxl]
        simp only [ap_DGet2S]
        walk_at "sx"
        have gv8 : H8 v = some (.tup ((key p).map kV)) := e8 _ _ (e7 _ _ hv)
        have gC8 := e8 _ _ (e57 _ _ gC5)
        have gG8 := e8 _ _ hG'
        have gvs8 : Paired (fun t c => H8 t = some (.tup (cellV c))) vs (stepL bs ss n S ((ys.take i).map (·.2))) := Paired.mapP hvs fun _ _ h => e8 _ _ h
        have hsplit : stepL bs ss n S ((ys.take (i + 1)).map (·.2)) = stepL bs ss n S ((ys.take i).map (·.2)) ++ (if 0 < newM bs ss n S p then [(p.1, p.2, newM bs ss n S p)] else []) := by
          unfold stepL
          rw [tk1 hy, List.map_append, List.filter_append, List.map_append]
          congr 1
          show List.map _ (List.filter _ [p]) = _
          rw [List.filter_cons]
          by_cases h : 0 < newM bs ss n S p
          · rw [if_pos h, if_pos (decide_eq_true h)]; rfl
          · rw [if_neg h, if_neg (by rw [decide_eq_true_eq]; exact h)]; rfl
        have hvl : vs.length ≤ 900 := by
          have h1 := Paired.length gvs8
          have h2 : (stepL bs ss n S ((ys.take i).map (·.2))).length ≤ i := by
            unfold stepL
            rw [List.length_map]
            refine Nat.le_trans (List.length_filter_le _ _) ?_
            rw [List.length_map, List.length_take]
            omega
          omega
        have e68 := e7.trans e8
        have hno : newM bs ss n S p = 0 → Evl.Ex H6 H8 ∧ ∃ x : List Addr, H8 G' = some (.lst (x.map V.ref)) ∧ Paired (fun t c => H8 t = some (.tup (cellV c))) x (stepL bs ss n S ((ys.take (i + 1)).map (·.2))) := fun h0 => by
          rw [hsplit, if_neg (by omega), List.append_nil]
          exact ⟨e68, vs, gG8, gvs8⟩
        have hyes : ∀ z : Int, newM bs ss n S p = z → 0 < z → ∀ pp, H8 pp = none → rCatT K (V.ref v) (V.ref pp) (upd H8 pp (.tup [V.int z])) fun x H1 => [x].length ≤ sizeLine ∧ ∀ p2, H1 p2 = none → rCat (V.ref G') (V.ref p2) (upd H1 p2 (.lst [x])) fun x H1 =>
            ∃ G', x = V.ref G' ∧ Evl.Ex H6 H1 ∧ ∃ x : List Addr, H1 G' = some (.lst (x.map V.ref)) ∧ Paired (fun t c => H1 t = some (.tup (cellV c))) x (stepL bs ss n S ((ys.take (i + 1)).map (·.2))) := fun z hz h0 pp hpp => by
          rw [hsplit, if_pos (by omega), hz]
          have x1 := Evl.Ex.new (o := .tup [V.int z]) hpp
          refine ⟨v, pp, _, _, rfl, rfl, SqT.of (x1 _ _ gv8), SqT.of upd_same, (by simp [key]), (by simp [sizeLine_eq, key]), (fun z => by cases z), fun _ pq hpq => ⟨by simp [sizeLine_eq], fun pl hpl => ?_⟩⟩
          have x2 := x1.trans (Evl.Ex.new (o := .tup ((key p).map kV ++ [V.int z])) hpq)
          have x3 := x2.trans (Evl.Ex.new (o := .lst [V.ref pq]) hpl)
          have gq := (Evl.Ex.new (o := .lst [V.ref pq]) hpl) pq _ upd_same
          have gl : (upd (upd (upd H8 pp (.tup [V.int z])) pq (.tup ((key p).map kV ++ [V.int z]))) pl (.lst [V.ref pq])) pl = some (.lst [V.ref pq]) := upd_same
          generalize (upd (upd (upd H8 pp (.tup [V.int z])) pq (.tup ((key p).map kV ++ [V.int z]))) pl (.lst [V.ref pq])) = H9 at x3 gq gl ⊢
          refine ⟨G', pl, _, _, rfl, rfl, x3 _ _ gG8, gl, ?_, fun G2 hG2 => ⟨G2, rfl, ?_⟩⟩
          · rw [List.length_map]
            exact Nat.le_trans (show vs.length + 1 ≤ 1000 by omega) (by decide)
          · have x4 := x3.trans (Evl.Ex.new (o := .lst (vs.map V.ref ++ [V.ref pq])) hG2)
            refine ⟨e68.trans x4, vs ++ [pq], by rw [upd_same, List.map_append]; rfl, Paired.snoc (Paired.mapP gvs8 fun _ _ h => x4 _ _ h) ?_⟩
            exact (Evl.Ex.new (o := .lst (vs.map V.ref ++ [V.ref pq])) hG2) _ _ gq
        have hr8 := Evl.ex_t ((e5.trans e57).trans e8) hr1
        have hb8 := Evl.ex_t ((e5.trans e57).trans e8) hb1
        have hs8 := Evl.ex_t ((e5.trans e57).trans e8) hs1
        refine ⟨.inr ⟨_, .inl gC8⟩, _, DGet.t gC8 gv8, ?_⟩
        rw [val_encP]
        by_cases hm : p ∈ S
        · rw [if_pos hm]
          refine ⟨rfl, ?_⟩
          rw [if_neg (by decide)]
          refine ⟨rfl, ?_⟩
          rw [if_pos (by decide)]
          refine ⟨r, _, 1, _, rfl, rfl, hr8, rfl, sd, _, rfl, .inr hs8, rfl, flat_ints ss, _, rfl, ?_⟩
          rw [if_neg (show ¬ (false = true) by decide), inV_int]
          by_cases hk : nearM S p ∈ ss
          · rw [if_pos (decide_eq_true hk), if_pos (by decide)]
            exact ⟨by decide, hyes 1 (by unfold newM; rw [if_pos hm, if_pos hk]) (by decide)⟩
          · rw [if_neg (by rw [decide_eq_true_eq]; exact hk)]
            refine ⟨1, rfl, r, _, 2, _, rfl, rfl, hr8, rfl, n, rfl, ?_⟩
            by_cases hn : 1 + 1 < n
            · rw [if_pos (decide_eq_true hn)]
              refine ⟨1, rfl, ?_⟩
              rw [if_pos (by decide)]
              exact ⟨by decide, hyes (1 + 1) (by unfold newM; rw [if_pos hm, if_neg hk, if_pos (by omega)]; rfl) (by decide)⟩
            · rw [if_neg (by rw [decide_eq_true_eq]; exact hn), if_neg (by decide)]
              exact hno (by unfold newM; rw [if_pos hm, if_neg hk, if_neg (by omega)])
        · rw [if_neg hm]
          refine ⟨rfl, ?_⟩
          rw [if_pos (by decide)]
          refine ⟨r, _, 0, _, rfl, rfl, hr8, rfl, b, _, rfl, .inr hb8, rfl, flat_ints bs, _, rfl, ?_⟩
          rw [if_neg (show ¬ (false = true) by decide), inV_int]
          by_cases hk : nearM S p ∈ bs
          · rw [if_pos (decide_eq_true hk), if_pos (by decide)]
            exact ⟨by decide, hyes 1 (by unfold newM; rw [if_neg hm, if_pos hk]) (by decide)⟩
          · rw [if_neg (by rw [decide_eq_true_eq]; exact hk), if_neg (by decide)]
            exact hno (by unfold newM; rw [if_neg hm, if_neg hk])
      · rintro _ H7 ⟨G', vs, y6, y7, y8, y9, rfl, e7, hG', hvs⟩
        rw [List.length_map, List.take_length] at hvs
        walk_at "sx"
        refine ⟨G', _, rfl, .inl ⟨SqL.of hG', fun qa hqa => ?_⟩⟩
        have x1 := Evl.Ex.new (o := .tup (vs.map V.ref)) hqa
        refine q qa _ (ys.map (·.2)) (((e5.trans e6).trans e7).trans x1) ⟨hpw, fun x => ?_⟩ ⟨vs, SqT.of upd_same, Paired.mapP hvs fun _ _ h => SqT.of (x1 _ _ h)⟩
        rw [hmem2, hmem]
        constructor
        · rintro ⟨c, h1, h2 | h2⟩
          · exact .inl (h2 ▸ h1)
          · exact .inr ⟨c, h1, h2⟩
        · rintro (h | ⟨c, h1, h2⟩)
          · exact ⟨x, h, .inl rfl⟩
          · exact ⟨c, h1, .inr h2⟩

end
end FB

/-! # WF -/
namespace FB
open PySem PySem.Spec PyProof.Rows L2
local macro_rules | `(tactic| walk_at "sx") => `(tactic| simp only [ap_Var, ap_C, ap_Op, ap_Un, ap_I, ap_I0, ap_U, ap_Eq, ap_Ne, ap_If, ap_Test, ap_B, ap_And, ap_Or, ap_Not, ap_AndV, ap_OrV, ap_NotV, ap_Chain, ap_CB, ap_Nil, ap_Cons, ap_Call, ap_Asg, ap_gName, ap_Seq, ap_Next, ap_Cont, ap_Ret, ap_IfS, ap_Par, ap_Par3, ap_Aug, ap_ip, ap_Drop, ap_gTup, ap_gCons, ap_gNil, ap_gSub, ap_Lst, ap_Tup, ap_Yes,
  List.getElem?_cons_zero, List.getElem?_cons_succ, List.set_cons_zero, List.set_cons_succ, Option.some.injEq, V.int.injEq, V.bl.injEq, V.ref.injEq, List.cons.injEq, and_true, true_and, exists_eq_left, exists_eq_left', exists_eq_right, exists_eq_right', exists_and_left, exists_and_right, List.append_nil, if_true, if_false, Bool.false_eq_true, Bool.not_true, Bool.not_false])
local macro_rules | `(tactic| walk_at "ev") => `(tactic| (intro H1 e1 Q1 q1; walk_at "sx"; exact q1 _ (Evl.Ex.refl _)))
section
variable {P : Program} {w : World} {K : PySem.W.Frag} {mg : Str → Option Value} {base : Heap}
/-! ### _law_alike -/
theorem isi2 {K : PySem.W.Frag} {x : V} {t : String} {tp : Addr} {b1 b2 : Bool} {H : Hp} {Q : VK} (hT : H tp = some (.tup [.ty "tuple", .ty "list"])) (ty : TyX K H x (.type t)) (e1 : kitB t "tuple" = some b1) (e2 : kitB t "list" = some b2) (q : Q (.bl (b1 || b2)) H) : rIsiT K [x, .ref tp] H Q :=
  ⟨x, tp, _, .type t, [.type "tuple", .type "list"], b1 || b2, rfl, hT, .cons (.ty _) (.cons (.ty _) .nil), ty, kitAny_cons (kit_ty e1) (fun h => by
    subst h
    exact kitAny_cons (kit_ty e2) (fun h2 => by subst h2; rfl) (fun h2 => by subst h2; rfl)) (fun h => by subst h; rfl), q⟩
theorem scal_int (x : Int) : scal (.int x) (.int x) = true := rfl
def sp_alike1 : Sp := fun vs H Q _ => ∃ x : Int, vs = [.int x, .int x] ∧ ∀ H', Evl.Ex H H' → Q (.bl true) H'
theorem ok_alike1 (T : Txt K mg) : FnOk P w K mg base CX0 1 T.f__law_alike T.d__law_alike ["_law_found", "_law_due"] sp_alike1 := by
  refine T.F__law_alike.ok sc__law_alike (fun vs H Q E h => ?_) (fun cdv A outer s H vs Q E hr h => ?_)
  · obtain ⟨x, rfl, _⟩ := h
    rfl
  · obtain ⟨x, rfl, q⟩ := h
    refine ⟨_, (pss_cons (ps_if (pt_val (pe_callB (isiTS K rfl) (by rfl) T.z_isinstance (by decide +kernel) (pa_cons (pv 1) (pa_cons (pe_tup (pa_cons (pe_bltn (v := .ty "tuple") (by rfl) T.z_tuple (by decide +kernel) rfl) (pa_cons (pe_bltn (v := .ty "list") (by rfl) T.z_list (by decide +kernel) rfl) pa_nil))) pa_nil)))) pss_never pss_nil)
      (pss_cons (ps_if (PW.pt (pw_or (pt_cmpR op_isN (pv 1) pe_non (nomark _)) (pw_or1 (pt_val (pe_callB (isiS K rfl) (by rfl) T.z_isinstance (by decide +kernel) (pa_cons (pv 1) (pa_cons (pe_bltn (v := .ty "str") (by rfl) T.z_str (by decide +kernel) rfl) pa_nil))))))) pss_never pss_nil)
      (pss_one (ps_ret (pe_and (pe_callB (isiS K rfl) (by rfl) T.z_isinstance (by decide +kernel) (pa_cons (pv 0) (pa_cons (pe_bltn (v := .ty "int") (by rfl) T.z_int (by decide +kernel) rfl) pa_nil))) (pe_and (pe_cmpR op_eq (pe_callB (isiS K rfl) (by rfl) T.z_isinstance (by decide +kernel) (pa_cons (pv 0) (pa_cons (pe_bltn (v := .ty "bool") (by rfl) T.z_bool (by decide +kernel) rfl) pa_nil))) (pe_callB (isiS K rfl) (by rfl) T.z_isinstance (by decide +kernel) (pa_cons (pv 1) (pa_cons (pe_bltn (v := .ty "bool") (by rfl) T.z_bool (by decide +kernel) rfl) pa_nil))) (nomark _)) (pe_one (pe_cmpR op_eq (pv 0) (pv 1) (nomark _))))))))), ?_⟩
    rw [show start N__law_alike [V.int x, V.int x] = [some (V.int x), some (V.int x), none] from rfl]
    walk_at "sx"
    refine ⟨by simp [sizeLine_eq], fun tp htp => ?_⟩
    have e1 := Evl.Ex.new (o := .tup [V.ty "tuple", V.ty "list"]) htp
    refine isi2 upd_same (.base (.int x)) (b1 := false) (b2 := false) (by decide +kernel) (by decide +kernel) ⟨false, rfl, ?_⟩
    rw [if_neg (by decide), if_neg (by simp)]
    refine isi (.base (.int x)) (b := false) (by decide +kernel) ⟨false, rfl, ?_⟩
    rw [if_neg (by decide)]
    refine isi (.base (.int x)) (b := true) (by decide +kernel) ⟨true, rfl, ?_⟩
    rw [if_pos rfl]
    refine isi (.base (.int x)) (b := false) (by decide +kernel) (isi (.base (.int x)) (b := false) (by decide +kernel) ⟨rfl, ?_⟩)
    rw [if_pos (by decide)]
    exact ⟨scal_int x, q _ e1⟩
def sp_alike : Sp := fun vs H Q _ => ∃ (a b : Addr) (x y : Int), vs = [.ref a, .ref b] ∧ H a = some (.lst [.int x, .int y]) ∧ H b = some (.lst [.int x, .int y]) ∧ ∀ H', Evl.Ex H H' → Q (.bl true) H'
theorem ok_alike (T : Txt K mg) : FnOk P w K mg base CX0 2 T.f__law_alike T.d__law_alike ["_law_found", "_law_due"] sp_alike := by
  have G__law_alike : FnOk P w K mg base CX0 1 T.f__law_alike T.d__law_alike ["_law_found", "_law_due"] sp_alike1 := ok_alike1 T
  refine T.F__law_alike.ok sc__law_alike (fun vs H Q E h => ?_) (fun cdv A outer s H vs Q E hr h => ?_)
  · obtain ⟨a, b, x, y, rfl, _⟩ := h
    rfl
  · obtain ⟨a, b, x, y, rfl, ha, hb, q⟩ := h
    refine ⟨_, (pss_cons (ps_if (pt_val (pe_callB (isiTS K rfl) (by rfl) T.z_isinstance (by decide +kernel) (pa_cons (pv 1) (pa_cons (pe_tup (pa_cons (pe_bltn (v := .ty "tuple") (by rfl) T.z_tuple (by decide +kernel) rfl) (pa_cons (pe_bltn (v := .ty "list") (by rfl) T.z_list (by decide +kernel) rfl) pa_nil))) pa_nil)))) (pss_cons (ps_if (PW.pt (pw_or (pt_not (pt_val (pe_callB (isiTS K rfl) (by rfl) T.z_isinstance (by decide +kernel) (pa_cons (pv 0) (pa_cons (pe_tup (pa_cons (pe_bltn (v := .ty "tuple") (by rfl) T.z_tuple (by decide +kernel) rfl) (pa_cons (pe_bltn (v := .ty "list") (by rfl) T.z_list (by decide +kernel) rfl) pa_nil))) pa_nil))))) (pw_or1 (pt_cmpR op_ne (pe_callB (isiS K rfl) (by rfl) T.z_isinstance (by decide +kernel) (pa_cons (pv 0) (pa_cons (pe_bltn (v := .ty "list") (by rfl) T.z_list (by decide +kernel) rfl) pa_nil))) (pe_callB (isiS K rfl) (by rfl) T.z_isinstance (by decide +kernel) (pa_cons (pv 1) (pa_cons (pe_bltn (v := .ty "list") (by rfl) T.z_list (by decide +kernel) rfl) pa_nil))) (nomark _))))) (pss_one (ps_ret pe_bl)) pss_nil)
      (pss_cons (ps_if (pt_cmpR op_ne (pe_callB (lenS K rfl) (by rfl) T.z_len (by decide +kernel) (pa_cons (pv 0) pa_nil)) (pe_callB (lenS K rfl) (by rfl) T.z_len (by decide +kernel) (pa_cons (pv 1) pa_nil)) (nomark _)) (pss_one (ps_ret pe_bl)) pss_nil)
      (pss_one (ps_ret (pe_cmpR (eqD K hr.units rfl) (pe_lc (own := [("_law_k", 2)]) (by rfl) sc__law_alike.nd (pi_range1 (by rfl) T.z_range (pa_cons (pe_callB (lenS K rfl) (by rfl) T.z_len (by decide +kernel) (pa_cons (pv 1) pa_nil)) pa_nil)) (blkOk_by (N := N__law_alike) (sc := defScope s__law_alike) (by decide +kernel)) (fun _ _ _ _ _ => (pg_name (i := 2) sc__law_alike.nd rfl (Or.inl rfl))) (fun _ _ _ _ _ => (pts_one (pt_not (pt_val (pe_call G__law_alike (hr.mono (by decide)) (by rfl) T.g__law_alike T.F__law_alike.kp T.b__law_alike .nil pass0 (pa_cons (pe_ix (ixl K rfl) (pv 0) (pv 2) (fun _ _ => rfl)) (pa_cons (pe_ix (ixl K rfl) (pv 1) (pv 2) (fun _ _ => rfl)) pa_nil))))))) (fun _ _ _ _ _ => (pv 2))) (pe_lst pa_nil) (nomark _)))))) pss_nil)
      (pss_cons (ps_if (PW.pt (pw_or (pt_cmpR op_isN (pv 1) pe_non (nomark _)) (pw_or1 (pt_val (pe_callB (isiS K rfl) (by rfl) T.z_isinstance (by decide +kernel) (pa_cons (pv 1) (pa_cons (pe_bltn (v := .ty "str") (by rfl) T.z_str (by decide +kernel) rfl) pa_nil))))))) (pss_one (ps_ret (pe_and (pe_cmpR (eqD K hr.units rfl) (pv 0) (pv 1) (nomark _)) (pe_one (pe_cmpR op_eq (pe_callB (isiS K rfl) (by rfl) T.z_isinstance (by decide +kernel) (pa_cons (pv 0) (pa_cons (pe_bltn (v := .ty "str") (by rfl) T.z_str (by decide +kernel) rfl) pa_nil))) (pe_callB (isiS K rfl) (by rfl) T.z_isinstance (by decide +kernel) (pa_cons (pv 1) (pa_cons (pe_bltn (v := .ty "str") (by rfl) T.z_str (by decide +kernel) rfl) pa_nil))) (nomark _)))))) pss_nil)
      (pss_one (ps_ret (pe_and (pe_callB (isiS K rfl) (by rfl) T.z_isinstance (by decide +kernel) (pa_cons (pv 0) (pa_cons (pe_bltn (v := .ty "int") (by rfl) T.z_int (by decide +kernel) rfl) pa_nil))) (pe_and (pe_cmpR op_eq (pe_callB (isiS K rfl) (by rfl) T.z_isinstance (by decide +kernel) (pa_cons (pv 0) (pa_cons (pe_bltn (v := .ty "bool") (by rfl) T.z_bool (by decide +kernel) rfl) pa_nil))) (pe_callB (isiS K rfl) (by rfl) T.z_isinstance (by decide +kernel) (pa_cons (pv 1) (pa_cons (pe_bltn (v := .ty "bool") (by rfl) T.z_bool (by decide +kernel) rfl) pa_nil))) (nomark _)) (pe_one (pe_cmpR (eqD K hr.units rfl) (pv 0) (pv 1) (nomark _))))))))), ?_⟩
    rw [show start N__law_alike [V.ref a, V.ref b] = [some (V.ref a), some (V.ref b), none] from rfl]
    walk_at "sx"
    refine ⟨by simp [sizeLine_eq], fun tp htp => ?_⟩
    have e1 := Evl.Ex.new (o := .tup [V.ty "tuple", V.ty "list"]) htp
    refine isi2 upd_same (.base (.lst (e1 _ _ hb))) (b1 := false) (b2 := true) (by decide +kernel) (by decide +kernel) ⟨true, rfl, ?_⟩
    rw [if_pos rfl]
    refine ⟨by simp [sizeLine_eq], fun tp2 htp2 => ?_⟩
    have e2 := e1.trans (Evl.Ex.new (o := .tup [V.ty "tuple", V.ty "list"]) htp2)
    refine isi2 upd_same (.base (.lst (e2 _ _ ha))) (b1 := false) (b2 := true) (by decide +kernel) (by decide +kernel) ⟨true, rfl, ?_⟩
    rw [if_neg (by decide)]
    refine isi (.base (.lst (e2 _ _ ha))) (b := true) (by decide +kernel) (isi (.base (.lst (e2 _ _ hb))) (b := true) (by decide +kernel) ⟨rfl, ?_⟩)
    rw [if_neg (by decide)]
    generalize (upd (upd H tp (.tup [V.ty "tuple", V.ty "list"])) tp2 (.tup [V.ty "tuple", V.ty "list"])) = H2 at e2 ⊢
    refine ⟨a, _, rfl, .inl (SqL.of (e2 _ _ ha)), b, _, rfl, .inl (SqL.of (e2 _ _ hb)), rfl, ?_⟩
    rw [if_neg (by simp)]
    have hlc := Evl.el_lcR1 (σ := [some (V.ref a), some (V.ref b), none]) (H := H2) (j := 2) (vs := [2]) (n := 2) (ta := tCons (tCB (Evl.rLenS K) (tCons (tVar 1) tNil)) tNil)
      (t := tNot (tB (tCall sp_alike1 [] E0 (tCons (tOp (rIxL K) (tVar 0) (tVar 2)) (tCons (tOp (rIxL K) (tVar 1) (tVar 2)) tNil))))) (te := tVar 2)
      (fun _ => false) (fun i => .int (i : Int)) (fun H3 e3 Q3 q3 => ?_) (by decide) (fun _ => rfl) (fun i H3 e3 hi => ?_) (fun i H3 e3 hi hf => by cases hf)
    · refine hlc H2 (Evl.Ex.refl _) _ fun l H3 hl e3 h3 => ?_
      rw [given_none] at h3
      refine ⟨by decide, fun p hp => ?_⟩
      have e4 := Evl.Ex.new (o := .lst []) hp
      refine eqD_ints (ns := []) (ms := []) (SqL.of (e4 _ _ h3)) (SqL.of upd_same) ?_
      exact q _ ((e2.trans e3).trans e4)
    · walk_at "sx"
      exact ⟨b, _, rfl, .inl (SqL.of ((e2.trans e3) _ _ hb)), q3 _ (Evl.Ex.refl _)⟩
    · intro H4 e4 Q4 q4
      show tNot _ [some (V.ref a), some (V.ref b), some (V.int (i : Int))] H4 Q4
      walk_at "sx"
      have e5 := (e2.trans e3).trans e4
      have : i = 0 ∨ i = 1 := by omega
      rcases this with rfl | rfl
      · exact ⟨a, _, 0, _, rfl, rfl, SqL.of (e5 _ _ ha), rfl, b, _, 0, _, rfl, rfl, SqL.of (e5 _ _ hb), rfl, x, rfl, fun H6 e6 => ⟨true, rfl, q4 _ e6⟩⟩
      · exact ⟨a, _, 1, _, rfl, rfl, SqL.of (e5 _ _ ha), rfl, b, _, 1, _, rfl, rfl, SqL.of (e5 _ _ hb), rfl, y, rfl, fun H6 e6 => ⟨true, rfl, q4 _ e6⟩⟩

end
end FB

/-! # WG -/
namespace FB
open PySem PySem.Spec PyProof.Rows L2
local macro_rules | `(tactic| walk_at "sx") => `(tactic| simp only [ap_Var, ap_C, ap_Op, ap_Un, ap_I, ap_I0, ap_U, ap_Eq, ap_Ne, ap_If, ap_Test, ap_B, ap_And, ap_Or, ap_Not, ap_AndV, ap_OrV, ap_NotV, ap_Chain, ap_CB, ap_Nil, ap_Cons, ap_Call, ap_Asg, ap_gName, ap_Seq, ap_Next, ap_Cont, ap_Ret, ap_IfS, ap_Par, ap_Par3, ap_Aug, ap_ip, ap_Drop, ap_gTup, ap_gCons, ap_gNil, ap_gSub, ap_Lst, ap_Tup, ap_Yes,
  List.getElem?_cons_zero, List.getElem?_cons_succ, List.set_cons_zero, List.set_cons_succ, Option.some.injEq, V.int.injEq, V.bl.injEq, V.ref.injEq, List.cons.injEq, and_true, true_and, exists_eq_left, exists_eq_left', exists_eq_right, exists_eq_right', exists_and_left, exists_and_right, List.append_nil, if_true, if_false, Bool.false_eq_true, Bool.not_true, Bool.not_false])
local macro_rules | `(tactic| walk_at "ev") => `(tactic| (intro H1 e1 Q1 q1; walk_at "sx"; exact q1 _ (Evl.Ex.refl _)))
section
variable {P : Program} {w : World} {K : PySem.W.Frag} {mg : Str → Option Value} {base : Heap}
/-! ### what the law asks, in plain numbers -/

def restB (bs ss : List Int) (h : Int) (w k : Nat) : Bool := (List.range (w + 2)).all fun j => wayR bs ss h (M.dd (colsOf h) k j) (M.dd (colsOf h) k (j + 1)) (M.dd (colsOf h) k (j + 2))
def colS (h x k : Nat) : List PP := ((List.range h).filter fun y => decide (k / 2 ^ (x * h + y) % 2 = 1)).map fun (y : Nat) => ((x : Int), (y : Int))
def boardS (h w k : Nat) : List PP := (List.range w).flatMap fun x => colS h x k
def cntB (bs ss : List Int) (h : Int) (w k : Nat) : Int := (((List.range k).filter (restB bs ss h w)).length : Int)
theorem boardS_succ (h w k : Nat) : boardS h (w + 1) k = boardS h w k ++ colS h w k := by
  unfold boardS
  rw [List.range_succ, List.flatMap_append]
  simp
theorem cntB_succ (bs ss : List Int) (h : Int) (w k : Nat) : cntB bs ss h w (k + 1) = cntB bs ss h w k + (if restB bs ss h w k = true then 1 else 0) := by
  unfold cntB
  rw [List.range_succ, List.filter_append, List.length_append, List.filter_cons]
  split
  · simp
  · simp
theorem colS_len (h x k : Nat) : (colS h x k).length ≤ h := by
  unfold colS
  rw [List.length_map]
  have := List.length_filter_le (fun y => decide (k / 2 ^ (x * h + y) % 2 = 1)) (List.range h)
  rwa [List.length_range] at this
theorem boardS_len (h k : Nat) : ∀ w, (boardS h w k).length ≤ w * h
  | 0 => by simp [boardS]
  | w + 1 => by
    have h1 := boardS_len h k w
    have h2 := colS_len h w k
    rw [boardS_succ, List.length_append, Nat.succ_mul]
    omega
theorem colS_mem {h x k : Nat} {p : PP} : p ∈ colS h x k ↔ ∃ y, y < h ∧ k / 2 ^ (x * h + y) % 2 = 1 ∧ p = ((x : Int), (y : Int)) := by
  unfold colS
  simp only [List.mem_map, List.mem_filter, List.mem_range, decide_eq_true_eq]
  constructor
  · rintro ⟨y, ⟨h1, h2⟩, rfl⟩; exact ⟨y, h1, h2, rfl⟩
  · rintro ⟨y, h1, h2, rfl⟩; exact ⟨y, ⟨h1, h2⟩, rfl⟩
theorem boardS_mem {h w k : Nat} {p : PP} : p ∈ boardS h w k ↔ ∃ x y, x < w ∧ y < h ∧ k / 2 ^ (x * h + y) % 2 = 1 ∧ p = ((x : Int), (y : Int)) := by
  unfold boardS
  simp only [List.mem_flatMap, List.mem_range, colS_mem]
  constructor
  · rintro ⟨x, h1, y, h2, h3, h4⟩; exact ⟨x, y, h1, h2, h3, h4⟩
  · rintro ⟨x, y, h1, h2, h3, h4⟩; exact ⟨x, h1, y, h2, h3, h4⟩
theorem colS_srt (h x k : Nat) : (colS h x k).Pairwise (fun a b => SrtO.lexB a b = true) := by
  unfold colS
  rw [List.pairwise_map]
  refine (List.Pairwise.filter _ List.pairwise_lt_range).imp fun {a b} hab => ?_
  rw [SrtO.lexB_iff]
  exact .inr ⟨rfl, by show (a : Int) < (b : Int); omega⟩
theorem boardS_srt (h k : Nat) : ∀ w, (boardS h w k).Pairwise (fun a b => SrtO.lexB a b = true)
  | 0 => by simp [boardS]
  | w + 1 => by
    rw [boardS_succ, List.pairwise_append]
    refine ⟨boardS_srt h k w, colS_srt h w k, fun a ha b hb => ?_⟩
    obtain ⟨x, y, hx, _, _, rfl⟩ := boardS_mem.mp ha
    obtain ⟨z, _, _, rfl⟩ := colS_mem.mp hb
    rw [SrtO.lexB_iff]
    exact .inl (by show (x : Int) < (w : Int); omega)
theorem lex_ne {a b : PP} (h : SrtO.lexB a b = true) : a ≠ b := fun e => by
  rw [SrtO.lexB_iff, e] at h
  omega
theorem boardS_nd (h w k : Nat) : (boardS h w k).Nodup := (boardS_srt h k w).imp fun h => lex_ne h
theorem colsOf_nat (h : Int) : colsOf h = 2 ^ h.toNat := rfl
theorem restB_pre (bs ss : List Int) (h : Int) (w k : Nat) : restB bs ss h w k = M.preB (wayR bs ss h) (colsOf h) (w + 2) k := rfl
theorem en_cnt {bs ss : List Int} {h : Int} (hh : 1 ≤ h ∧ h ≤ 3) (w : Nat) : enM bs ss h w = cntB bs ss h w (2 ^ (h.toNat * w)) := by
  unfold enM cntB
  rw [M.En_count (by have := cols_le hh; omega), M.sm_filter, colsOf_nat, ← Nat.pow_mul]
  rfl
theorem way0 {bs ss : List Int} {h : Int} (h0 : (0 : Int) ∉ bs) : wayR bs ss h 0 0 0 = true := by
  unfold wayR restsM
  rw [List.all_eq_true]
  intro k _
  have hb : ∀ y, bitA h ((0 : Nat) : Int) y = 0 := fun y => by
    unfold bitA
    split
    · show (0 : Int) / _ % 2 = 0
      rw [Int.zero_ediv]; rfl
    · rfl
  have hc : ∀ y n, colN h ((0 : Nat) : Int) y n = 0 := fun y n => by
    induction n with
    | zero => rfl
    | succ n ih => show colN h ((0 : Nat) : Int) y n + bitA h ((0 : Nat) : Int) (y - 1 + (n : Int)) = 0; rw [ih, hb]; rfl
  unfold okA colsN
  simp only [List.map_cons, List.map_nil, hc, hb]
  rw [if_neg (by decide), show (([0, 0, 0] : List Int).sum - 0 : Int) = 0 from rfl, decide_eq_false h0]
  rfl
theorem en_pos {bs ss : List Int} {h : Int} (hh : 1 ≤ h ∧ h ≤ 3) (h0 : (0 : Int) ∉ bs) (w : Nat) : 1 ≤ enM bs ss h w := by
  rw [en_cnt hh w]
  unfold cntB
  have hm : 0 ∈ (List.range (2 ^ (h.toNat * w))).filter (restB bs ss h w) := List.mem_filter.mpr ⟨List.mem_range.mpr (Nat.two_pow_pos _), by rw [restB_pre]; exact M.preB_zero (way0 h0) _⟩
  have := List.length_pos_of_mem hm
  omega
theorem en_zero {bs ss : List Int} {h : Int} (hh : 1 ≤ h ∧ h ≤ 3) (h0 : (0 : Int) ∉ bs) : enM bs ss h 0 = 1 := by
  have h1 := en_pos (ss := ss) hh h0 0
  have h2 := en_cnt (bs := bs) (ss := ss) hh 0
  unfold cntB at h2
  have h3 := List.length_filter_le (restB bs ss h 0) (List.range (2 ^ (h.toNat * 0)))
  rw [List.length_range, Nat.mul_zero, Nat.pow_zero] at h3
  rw [Nat.mul_zero, Nat.pow_zero] at h2
  omega
theorem en_le {bs ss : List Int} {h : Int} (hh : 1 ≤ h ∧ h ≤ 3) (w : Nat) : enM bs ss h w ≤ ((2 ^ (h.toNat * w) : Nat) : Int) := by
  rw [en_cnt hh w]
  unfold cntB
  have h3 := List.length_filter_le (restB bs ss h w) (List.range (2 ^ (h.toNat * w)))
  rw [List.length_range] at h3
  exact Int.ofNat_le.mpr h3
/-- rows that keep a rule, shifted and weighed -/
theorem rec_mix {e : Nat → M.Fp} {L : Nat} {x : Nat → M.Fp} (hr : M.Rec e L x) (A B C : M.Fp) : M.Rec e L fun m => x (m + 3) - A * x (m + 2) - B * x (m + 1) - C * x m := by
  intro w
  have h3 := hr (w + 3)
  have h2 := hr (w + 2)
  have h1 := hr (w + 1)
  have h0 := hr w
  show x (w + L + 3) - A * x (w + L + 2) - B * x (w + L + 1) - C * x (w + L) = _
  rw [show w + L + 3 = w + 3 + L by omega, show w + L + 2 = w + 2 + L by omega, show w + L + 1 = w + 1 + L by omega, h3, h2, h1, h0, ← M.sm_mul, ← M.sm_mul, ← M.sm_mul, ← M.sm_sub, ← M.sm_sub, ← M.sm_sub]
  refine M.sm_congr fun j _ => ?_
  rw [show w + 3 + j = w + j + 3 by omega, show w + 2 + j = w + j + 2 by omega, show w + 1 + j = w + j + 1 by omega]
  grind
theorem rec_stays {e : Nat → M.Fp} {L : Nat} {x : Nat → M.Fp} (hr : M.Rec e L x) (s : Nat) (hz : ∀ m, s ≤ m → m < s + L → x m = 0) : ∀ m, s ≤ m → x m = 0 := fun m => by
  induction m using Nat.strongRecOn with
  | ind m ih =>
    intro hm
    by_cases h : m < s + L
    · exact hz m hm h
    · obtain ⟨w, rfl⟩ : ∃ w, m = w + L := ⟨m - L, by omega⟩
      rw [hr w]
      refine M.sm_z L fun j hj => ?_
      rw [ih (w + j) (by omega) (by omega)]
      grind
theorem en_far {bs ss : List Int} {a b c : Int} (near : ∀ k : Nat, 12 ≤ k → k < 40 → enM bs ss 1 k = enM bs ss 1 (k - 1) * a + enM bs ss 1 (k - 2) * b + enM bs ss 1 (k - 3) * c) (k : Nat) (hk : 12 ≤ k) :
    enM bs ss 1 k % M.PI = (enM bs ss 1 (k - 1) % M.PI * a + enM bs ss 1 (k - 2) % M.PI * b + enM bs ss 1 (k - 3) % M.PI * c) % M.PI := by
  obtain ⟨e, L, hL, hr⟩ := M.En_rec (wayR bs ss 1) (colsOf 1) (by decide)
  have hL4 : L ≤ 4 := hL
  have hr2 := rec_mix hr (M.φ a) (M.φ b) (M.φ c)
  have hx : ∀ w, M.φ (M.En (wayR bs ss 1) (colsOf 1) w) = M.φ (enM bs ss 1 w) := fun w => rfl
  have hall := rec_stays hr2 9 (fun m h1 h2 => by
    have h := congrArg M.φ (near (m + 3) (by omega) (by omega))
    rw [show m + 3 - 1 = m + 2 by omega, show m + 3 - 2 = m + 1 by omega, show m + 3 - 3 = m by omega, M.φ_add, M.φ_add, M.φ_mul, M.φ_mul, M.φ_mul] at h
    simp only [hx]
    rw [h]
    grind)
  have h := hall (k - 3) (by omega)
  simp only [hx] at h
  rw [show k - 3 + 3 = k by omega, show k - 3 + 2 = k - 1 by omega, show k - 3 + 1 = k - 2 by omega] at h
  refine M.eq_of_φ (M.inP_mod _) ?_
  rw [M.φ_mod, M.φ_add, M.φ_add, M.φ_mul, M.φ_mul, M.φ_mul, M.φ_mod, M.φ_mod, M.φ_mod]
  grind
theorem sorted_eq {α : Type} {r : α → α → Prop} (asym : ∀ a b, r a b → r b a → False) : ∀ {l₁ l₂ : List α}, l₁.Pairwise r → l₂.Pairwise r → (∀ x, x ∈ l₁ ↔ x ∈ l₂) → l₁ = l₂
  | [], [], _, _, _ => rfl
  | [], b :: t, _, _, h => absurd ((h b).mpr (List.mem_cons_self ..)) (by simp)
  | a :: t, [], _, _, h => absurd ((h a).mp (List.mem_cons_self ..)) (by simp)
  | a :: t, b :: u, h1, h2, h => by
    rw [List.pairwise_cons] at h1 h2
    have e : a = b := by
      apply Classical.byContradiction
      intro ne
      have k1 : a ∈ u := by
        rcases List.mem_cons.mp ((h a).mp (List.mem_cons_self ..)) with k | k
        · exact absurd k ne
        · exact k
      have k2 : b ∈ t := by
        rcases List.mem_cons.mp ((h b).mpr (List.mem_cons_self ..)) with k | k
        · exact absurd k.symm ne
        · exact k
      exact asym a b (h1.1 b k2) (h2.1 a k1)
    subst e
    rw [sorted_eq asym h1.2 h2.2 fun x => ?_]
    constructor
    · intro hx
      rcases List.mem_cons.mp ((h x).mp (List.mem_cons_of_mem _ hx)) with k | k
      · subst k; exact absurd (h1.1 x hx) fun z => asym x x z z
      · exact k
    · intro hx
      rcases List.mem_cons.mp ((h x).mpr (List.mem_cons_of_mem _ hx)) with k | k
      · subst k; exact absurd (h2.1 x hx) fun z => asym x x z z
      · exact k
theorem lex_asym (a b : PP) (h1 : SrtO.lexB a b = true) (h2 : SrtO.lexB b a = true) : False := by
  rw [SrtO.lexB_iff] at h1 h2
  omega
/-- a place that rests -/
def okP (bs ss : List Int) (S : List PP) (p : PP) : Prop := (nearM S p ∈ (if p ∈ S then ss else bs)) ↔ p ∈ S
theorem newM_cases (bs ss : List Int) (n : Int) (S : List PP) (p : PP) : newM bs ss n S p = 0 ∨ newM bs ss n S p = 1 ∨ newM bs ss n S p = 2 := by
  unfold newM
  repeat (first | split | exact .inl rfl | exact .inr (.inl rfl) | exact .inr (.inr rfl))
theorem newM_ok {bs ss : List Int} {n : Int} {S : List PP} {p : PP} : newM bs ss n S p = (if p ∈ S then 1 else 0) ↔ okP bs ss S p := by
  unfold newM okP
  by_cases h : p ∈ S
  · rw [if_pos h, if_pos h, if_pos h]
    constructor
    · intro z
      by_cases k : nearM S p ∈ ss
      · exact ⟨fun _ => h, fun _ => k⟩
      · rw [if_neg k] at z
        by_cases k2 : 2 < n
        · rw [if_pos k2] at z; omega
        · rw [if_neg k2] at z; omega
    · intro z
      rw [if_pos (z.mpr h)]
  · rw [if_neg h, if_neg h, if_neg h]
    constructor
    · intro z
      by_cases k : nearM S p ∈ bs
      · rw [if_pos k] at z; omega
      · exact ⟨fun q => absurd q k, fun q => absurd q h⟩
    · intro z
      rw [if_neg fun q => h (z.mp q)]
theorem ones_mem {S : List PP} {c : Cell} : c ∈ onesOf S ↔ ∃ p ∈ S, c = (p.1, p.2, 1) := by
  unfold onesOf
  rw [List.mem_map]
  exact ⟨fun ⟨p, h1, h2⟩ => ⟨p, h1, h2.symm⟩, fun ⟨p, h1, h2⟩ => ⟨p, h1, h2.symm⟩⟩
theorem stepL_mem {bs ss : List Int} {n : Int} {S places : List PP} {c : Cell} : c ∈ stepL bs ss n S places ↔ ∃ p ∈ places, 0 < newM bs ss n S p ∧ c = (p.1, p.2, newM bs ss n S p) := by
  unfold stepL
  simp only [List.mem_map, List.mem_filter, decide_eq_true_eq]
  exact ⟨fun ⟨p, ⟨h1, h2⟩, h3⟩ => ⟨p, h1, h2, h3.symm⟩, fun ⟨p, h1, h2, h3⟩ => ⟨p, ⟨h1, h2⟩, h3.symm⟩⟩
theorem step_iff {bs ss : List Int} {n : Int} {S places : List PP} (hs : S.Pairwise fun a b => SrtO.lexB a b = true) (hp : Placed S places) : stepL bs ss n S places = onesOf S ↔ ∀ p ∈ places, okP bs ss S p := by
  constructor
  · intro e p hpp
    rw [← newM_ok (n := n)]
    by_cases hS : p ∈ S
    · rw [if_pos hS]
      have : ((p.1, p.2, 1) : Cell) ∈ stepL bs ss n S places := by rw [e]; exact ones_mem.mpr ⟨p, hS, rfl⟩
      obtain ⟨q, _, _, h3⟩ := stepL_mem.mp this
      injection h3 with a1 a2
      injection a2 with a2 a3
      have : p = q := Prod.ext a1 a2
      rw [this]
      exact a3.symm
    · rw [if_neg hS]
      by_cases h0 : 0 < newM bs ss n S p
      · have : ((p.1, p.2, newM bs ss n S p) : Cell) ∈ onesOf S := by rw [← e]; exact stepL_mem.mpr ⟨p, hpp, h0, rfl⟩
        obtain ⟨q, h1, h3⟩ := ones_mem.mp this
        injection h3 with a1 a2
        injection a2 with a2 a3
        have : p = q := Prod.ext a1 a2
        exact absurd (this ▸ h1) hS
      · have := newM_cases bs ss n S p
        omega
  · intro h
    have hv : ∀ p ∈ places, newM bs ss n S p = (if p ∈ S then 1 else 0) := fun p hpp => newM_ok.mpr (h p hpp)
    have e1 : places.filter (fun p => decide (0 < newM bs ss n S p)) = S := by
      refine sorted_eq (r := fun a b => SrtO.lexB a b = true) lex_asym (List.Pairwise.filter _ hp.1) hs fun x => ?_
      rw [List.mem_filter, decide_eq_true_eq]
      constructor
      · rintro ⟨h1, h2⟩
        rw [hv x h1] at h2
        by_cases hx : x ∈ S
        · exact hx
        · rw [if_neg hx] at h2; omega
      · intro hx
        have h1 := (hp.2 x).mpr (.inl hx)
        refine ⟨h1, ?_⟩
        rw [hv x h1, if_pos hx]
        decide
    unfold stepL onesOf
    rw [e1]
    refine List.map_congr_left fun p hpS => ?_
    rw [hv p ((hp.2 p).mpr (.inl hpS)), if_pos hpS]
theorem around_eq (p : PP) : around p = [(p.1 + -1, p.2 + -1), (p.1 + -1, p.2 + 0), (p.1 + -1, p.2 + 1), (p.1 + 0, p.2 + -1), (p.1 + 0, p.2 + 1), (p.1 + 1, p.2 + -1), (p.1 + 1, p.2 + 0), (p.1 + 1, p.2 + 1)] := rfl
theorem around_mem {p q : PP} : q ∈ around p ↔ (p.1 - 1 ≤ q.1 ∧ q.1 ≤ p.1 + 1) ∧ (p.2 - 1 ≤ q.2 ∧ q.2 ≤ p.2 + 1) ∧ ¬ (q.1 = p.1 ∧ q.2 = p.2) := by
  obtain ⟨a, b⟩ := p
  obtain ⟨c, d⟩ := q
  rw [around_eq]
  simp only [List.mem_cons, List.not_mem_nil, or_false, Prod.mk.injEq]
  omega
theorem near_zero {S : List PP} {p : PP} (h : ∀ q ∈ around p, q ∉ S) : nearM S p = 0 := by
  unfold nearM
  rw [List.filter_eq_nil_iff.mpr fun q hq => by rw [decide_eq_true_eq]; exact h q hq]
  rfl
theorem okP_far {bs ss : List Int} {S : List PP} {p : PP} (h0 : (0 : Int) ∉ bs) (hS : p ∉ S) (h : ∀ q ∈ around p, q ∉ S) : okP bs ss S p := by
  unfold okP
  rw [near_zero h, if_neg hS]
  exact ⟨fun z => absurd z h0, fun z => absurd z hS⟩
def ind (S : List PP) (p : PP) : Int := if p ∈ S then 1 else 0
theorem filter_len {S : List PP} : ∀ l : List PP, (((l.filter fun q => decide (q ∈ S)).length : Nat) : Int) = (l.map (ind S)).sum
  | [] => rfl
  | q :: r => by
    rw [List.map_cons, List.sum_cons, ← filter_len r, List.filter_cons]
    unfold ind
    by_cases h : q ∈ S
    · rw [if_pos (decide_eq_true h), if_pos h, List.length_cons]; omega
    · rw [if_neg (by rw [decide_eq_true_eq]; exact h), if_neg h]; omega
theorem bit_col {hn w k : Nat} (hk : k < 2 ^ (hn * w)) (j : Nat) (y : Int) : bitA (hn : Int) ((M.dd (2 ^ hn) k j : Nat) : Int) y = ind (boardS hn w k) ((j : Int) - 2, y) := by
  have hB : 0 < 2 ^ hn := Nat.two_pow_pos _
  unfold ind
  by_cases hj : j < 2
  · rw [M.dd_lo hj, if_neg fun z => ?_]
    · unfold bitA
      split
      · show (0 : Int) / _ % 2 = 0
        rw [Int.zero_ediv]; rfl
      · rfl
    · obtain ⟨x, y', _, _, _, e⟩ := boardS_mem.mp z
      injection e with e1 e2
      omega
  · obtain ⟨i, rfl⟩ : ∃ i, j = i + 2 := ⟨j - 2, by omega⟩
    have hi : (((i + 2 : Nat) : Int) - 2) = (i : Int) := by omega
    rw [hi]
    by_cases hw : i < w
    · unfold bitA
      by_cases hy : 0 ≤ y ∧ y < (hn : Int)
      · rw [if_pos hy]
        obtain ⟨y', rfl⟩ := Int.eq_ofNat_of_zero_le hy.1
        have hy2 : y' < hn := by omega
        have e : M.dd (2 ^ hn) k (i + 2) / 2 ^ y' % 2 = k / 2 ^ (i * hn + y') % 2 := by
          rw [M.dd_hi, ← Nat.pow_mul, Nat.mul_comm hn i, Nat.pow_add, ← Nat.div_div_eq_div_mul]
          generalize k / 2 ^ (i * hn) = z
          obtain ⟨d, rfl⟩ : ∃ d, hn = y' + 1 + d := ⟨hn - (y' + 1), by omega⟩
          have h1 : z % 2 ^ (y' + 1 + d) / 2 ^ y' % 2 = z / 2 ^ y' % 2 := by
            conv => rhs; rw [← Nat.mod_add_div z (2 ^ (y' + 1 + d))]
            rw [show 2 ^ (y' + 1 + d) * (z / 2 ^ (y' + 1 + d)) = 2 ^ y' * (2 * (2 ^ d * (z / 2 ^ (y' + 1 + d)))) by
              rw [Nat.pow_add, Nat.pow_succ]
              simp only [Nat.mul_assoc]]
            rw [Nat.add_comm (z % _), Nat.mul_add_div (Nat.two_pow_pos _), Nat.mul_add_mod]
          exact h1
        have hcast : ((M.dd (2 ^ hn) k (i + 2) : Nat) : Int) / 2 ^ ((y' : Int)).toNat % 2 = ((M.dd (2 ^ hn) k (i + 2) / 2 ^ y' % 2 : Nat) : Int) := by
          rw [Int.toNat_natCast, Int.natCast_emod, Int.natCast_ediv, Int.natCast_pow]; rfl
        rw [hcast, e]
        by_cases hb : k / 2 ^ (i * hn + y') % 2 = 1
        · rw [if_pos (boardS_mem.mpr ⟨i, y', hw, hy2, hb, rfl⟩), hb]; rfl
        · rw [if_neg fun z => ?_]
          · have : k / 2 ^ (i * hn + y') % 2 = 0 := by omega
            rw [this]; rfl
          · obtain ⟨x2, y2, _, _, hb2, e⟩ := boardS_mem.mp z
            injection e with e1 e2
            rw [show x2 = i by omega, show y2 = y' by omega] at hb2
            exact hb hb2
      · rw [if_neg hy, if_neg fun z => ?_]
        obtain ⟨x2, y2, _, h2, _, e⟩ := boardS_mem.mp z
        injection e with e1 e2
        omega
    · rw [M.dd_out hB (by rw [← Nat.pow_mul]; exact hk) (by omega : w ≤ i), if_neg fun z => ?_]
      · unfold bitA
        split
        · show (0 : Int) / _ % 2 = 0
          rw [Int.zero_ediv]; rfl
        · rfl
      · obtain ⟨x2, y2, h1, _, _, e⟩ := boardS_mem.mp z
        injection e with e1 e2
        omega
theorem ok_col {bs ss : List Int} {hn w k : Nat} (hk : k < 2 ^ (hn * w)) (j : Nat) (y : Int) :
    okA bs ss hn ((M.dd (2 ^ hn) k j : Nat) : Int) ((M.dd (2 ^ hn) k (j + 1) : Nat) : Int) ((M.dd (2 ^ hn) k (j + 2) : Nat) : Int) y = true ↔ okP bs ss (boardS hn w k) ((j : Int) - 1, y) := by
  have b0 : ∀ y, bitA (hn : Int) ((M.dd (2 ^ hn) k j : Nat) : Int) y = ind (boardS hn w k) ((j : Int) - 1 + -1, y) := fun y => by
    rw [bit_col hk]; congr 2; omega
  have b1 : ∀ y, bitA (hn : Int) ((M.dd (2 ^ hn) k (j + 1) : Nat) : Int) y = ind (boardS hn w k) ((j : Int) - 1 + 0, y) := fun y => by
    rw [bit_col hk]; congr 2; omega
  have b2 : ∀ y, bitA (hn : Int) ((M.dd (2 ^ hn) k (j + 2) : Nat) : Int) y = ind (boardS hn w k) ((j : Int) - 1 + 1, y) := fun y => by
    rw [bit_col hk]; congr 2; omega
  have hnear : colsN hn [((M.dd (2 ^ hn) k j : Nat) : Int), ((M.dd (2 ^ hn) k (j + 1) : Nat) : Int), ((M.dd (2 ^ hn) k (j + 2) : Nat) : Int)] y - bitA hn ((M.dd (2 ^ hn) k (j + 1) : Nat) : Int) y = nearM (boardS hn w k) ((j : Int) - 1, y) := by
    unfold nearM
    rw [filter_len, around_eq]
    unfold colsN
    simp only [List.map_cons, List.map_nil, List.sum_cons, List.sum_nil, colN, b0, b1, b2]
    have y0 : y - 1 + ((0 : Nat) : Int) = y + -1 := by omega
    have y1 : y - 1 + ((1 : Nat) : Int) = y + 0 := by omega
    have y2 : y - 1 + ((2 : Nat) : Int) = y + 1 := by omega
    have y3 : ind (boardS hn w k) ((j : Int) - 1 + 0, y) = ind (boardS hn w k) ((j : Int) - 1 + 0, y + 0) := by congr 2; omega
    rw [y0, y1, y2, y3]
    omega
  have hb : bitA hn ((M.dd (2 ^ hn) k (j + 1) : Nat) : Int) y = ind (boardS hn w k) ((j : Int) - 1, y) := by
    rw [b1]; congr 2; omega
  unfold okA okP
  rw [hnear, hb, beq_iff_eq, decide_eq_decide]
  have hi : ind (boardS hn w k) ((j : Int) - 1, y) = 1 ↔ ((j : Int) - 1, y) ∈ boardS hn w k := by
    unfold ind
    split
    · rename_i h; exact ⟨fun _ => h, fun _ => rfl⟩
    · rename_i h; exact ⟨(fun z => by cases z), fun z => absurd z h⟩
  by_cases h : ((j : Int) - 1, y) ∈ boardS hn w k
  · rw [if_pos h, if_pos (hi.mpr h), hi]
  · rw [if_neg h, if_neg (fun z => h (hi.mp z)), hi]
theorem step_rest {bs ss : List Int} {n h : Int} {w k : Nat} {places : List PP} (hI : IsRule bs ss n) (h2 : ∀ x ∈ bs, 2 ≤ x) (hh : 1 ≤ h ∧ h ≤ 3) (hk : k < 2 ^ (h.toNat * w)) (hp : Placed (boardS h.toNat w k) places) :
    decide (stepL bs ss n (boardS h.toNat w k) places = onesOf (boardS h.toNat w k)) = restB bs ss h w k := by
  obtain ⟨hn, rfl⟩ : ∃ hn : Nat, h = (hn : Int) := Int.eq_ofNat_of_zero_le (by omega)
  rw [Int.toNat_natCast] at hk hp ⊢
  have h0 : (0 : Int) ∉ bs := fun z => by have := h2 0 z; omega
  rw [Bool.eq_iff_iff, decide_eq_true_eq, step_iff (boardS_srt hn k w) hp]
  have hcol : colsOf (hn : Int) = 2 ^ hn := by unfold colsOf; rw [Int.toNat_natCast]
  have hrest : restB bs ss hn w k = true ↔ ∀ j, j < w + 2 → ∀ t, t < hn + 2 → okP bs ss (boardS hn w k) ((j : Int) - 1, (t : Int) - 1) := by
    unfold restB
    rw [hcol, List.all_eq_true]
    constructor
    · intro a j hj t ht
      have a1 := a j (List.mem_range.mpr hj)
      unfold wayR restsM at a1
      rw [List.all_eq_true] at a1
      exact (ok_col hk j _).mp (a1 t (List.mem_range.mpr (by omega)))
    · intro a j hj
      unfold wayR restsM
      rw [List.all_eq_true]
      intro t ht
      exact (ok_col hk j _).mpr (a j (List.mem_range.mp hj) t (by have := List.mem_range.mp ht; omega))
  rw [hrest]
  have hin : ∀ q ∈ boardS hn w k, (0 ≤ q.1 ∧ q.1 < (w : Int)) ∧ (0 ≤ q.2 ∧ q.2 < (hn : Int)) := fun q hq => by
    obtain ⟨x, y, hx, hy, _, rfl⟩ := boardS_mem.mp hq
    exact ⟨⟨Int.natCast_nonneg _, by show (x : Int) < w; omega⟩, ⟨Int.natCast_nonneg _, by show (y : Int) < hn; omega⟩⟩
  constructor
  · intro a j _ t _
    by_cases hm : ((j : Int) - 1, (t : Int) - 1) ∈ places
    · exact a _ hm
    · refine okP_far h0 (fun z => hm ((hp.2 _).mpr (.inl z))) fun q hq hqS => hm ((hp.2 _).mpr (.inr ⟨q, hqS, ?_⟩))
      rw [around_mem] at hq ⊢
      omega
  · rintro a ⟨x, y⟩ _
    by_cases hwin : (-1 ≤ x ∧ x ≤ (w : Int)) ∧ (-1 ≤ y ∧ y ≤ (hn : Int))
    · have := a (x + 1).toNat (by omega) (y + 1).toNat (by omega)
      rw [show (((x + 1).toNat : Nat) : Int) - 1 = x by omega, show (((y + 1).toNat : Nat) : Int) - 1 = y by omega] at this
      exact this
    · refine okP_far h0 (fun z => ?_) fun q hq hqS => ?_
      · have := hin _ z
        simp only at this
        omega
      · have h3 := hin _ hqS
        rw [around_mem] at hq
        simp only at hq
        omega
theorem lcTups {ta : TA} {te : TE} {t : TT} {σ : L2.St} {H : Hp} {Q : VK} {j : Nat} {vs : List Nat} {n : Nat} (cs : Nat → List V) (f : Nat → Bool) (h : Evl.EvA ta σ H [.int (n : Int)]) (hn : n ≤ 1000) (hw : ∀ x, wipe ((wipe σ vs).set j (some x)) vs = wipe σ vs)
    (ht : ∀ (i : Nat) H1, Evl.Ex H H1 → i < n → Evl.EvT t ((wipe σ vs).set j (some (.int (i : Int)))) H1 (f i)) (he : ∀ (i : Nat) H1, Evl.Ex H H1 → i < n → f i = true → Evl.EvU te ((wipe σ vs).set j (some (.int (i : Int)))) H1 (cs i))
    (q : ∀ D (ts : List Addr) H', Evl.Ex H H' → H D = none → H' D = some (.lst (ts.map V.ref)) → Paired (fun t c => H' t = some (.tup c)) ts (((List.range n).filter f).map cs) → Q (.ref D) H') : tLc (iRng1 ta) (gName j) t te vs σ H Q := by
  refine h H (Evl.Ex.refl _) _ fun H1 e1 => ⟨n, rfl, by omega, by omega, fun D hD => ?_⟩
  refine lc_range (lo := 0) (n := (n : Int).toNat) (Qd := fun H => Q (.ref D) H) (fun i H' => ∃ ts : List Addr, Evl.Ex H1 H' ∧ H' D = some (.lst (ts.map V.ref)) ∧ Paired (fun t c => H' t = some (.tup c)) ts (((List.range i).filter f).map cs))
    ⟨[], Evl.Ex.new hD, upd_same, .nil⟩ (fun i H' hi ⟨ts, e, hD2, hts⟩ => ?_) (fun H' ⟨ts, e, hD2, hts⟩ => ?_)
  · rw [Int.zero_add]
    refine ⟨hw _, ?_⟩
    have hi2 : i < n := by omega
    refine ht i H' (e1.trans e) hi2 H' (Evl.Ex.refl _) _ fun H3 e3 => ?_
    cases hf : f i with
    | true =>
      rw [if_pos rfl]
      refine he i H3 ((e1.trans e).trans e3) hi2 hf H3 (Evl.Ex.refl _) _ fun p H4 hp e4 h4 => ?_
      have hD4 := (e3.trans e4) _ _ hD2
      have hlen : ts.length ≤ i := by
        have := Paired.length hts
        rw [List.length_map] at this
        have h2 := List.length_filter_le f (List.range i)
        rw [List.length_range] at h2
        omega
      refine ⟨_, hD4, by rw [List.length_map]; exact Nat.lt_of_le_of_lt (show ts.length ≤ 1000 by omega) (by decide), ts ++ [p], ((e.trans e3).trans e4).mut hD, by rw [upd_same, List.map_append]; rfl, ?_⟩
      rw [List.range_succ, List.filter_append, List.map_append, show (List.filter f [i]).map cs = [cs i] by simp [List.filter_cons, hf]]
      have k1 : Paired (fun t c => H4 t = some (.tup c)) (ts ++ [p]) (((List.range i).filter f).map cs ++ [cs i]) := Paired.snoc (Paired.mapP hts fun _ _ q => (e3.trans e4) _ _ q) h4
      exact Paired.mapP k1 fun u v hu => by rw [upd_ne (ne_of hu hD4 (by intro z; cases z))]; exact hu
    | false =>
      rw [if_neg (by decide)]
      refine ⟨ts, e.trans e3, e3 _ _ hD2, ?_⟩
      rw [List.range_succ, List.filter_append, List.map_append, show (List.filter f [i]).map cs = [] by simp [List.filter_cons, hf], List.append_nil]
      exact Paired.mapP hts fun _ _ q => e3 _ _ q
  · rw [Int.toNat_natCast] at hts
    exact q D ts H' (e1.trans e) (Evl.fresh_back e1 hD) hD2 hts
theorem elR2 {ta : TA} {te : TE} {t : TT} {σ : L2.St} {H : Hp} {j : Nat} {vs : List Nat} (lo : Int) (n : Nat) (f : Nat → Bool) (v : Nat → V) (h : Evl.EvA ta σ H [.int lo, .int (lo + n)]) (hb : -1000 ≤ lo ∧ lo ≤ 1000 ∧ n ≤ 1000) (hw : ∀ x, wipe ((wipe σ vs).set j (some x)) vs = wipe σ vs)
    (ht : ∀ (i : Nat) H1, Evl.Ex H H1 → i < n → Evl.EvT t ((wipe σ vs).set j (some (.int (lo + (i : Int))))) H1 (f i)) (he : ∀ (i : Nat) H1, Evl.Ex H H1 → i < n → f i = true → Evl.Ev te ((wipe σ vs).set j (some (.int (lo + (i : Int))))) H1 (v i)) :
    Evl.EvL (tLc (iRng2 ta) (gName j) t te vs) σ H (Evl.given n f v) := fun H0 e Q q => h H0 e _ fun H1 e1 => ⟨lo, lo + n, rfl, by omega, fun Dl hD => by
  rw [show (lo + (n : Int) - lo).toNat = n by omega]
  exact lc_range (lo := lo) (n := n) (Evl.Cw H1 f v Dl) ⟨hD, Evl.Ex.new hD, upd_same⟩ (fun i H' hi p => ⟨hw _, Evl.cw_turn p (by omega) (ht i H1 (e.trans e1) hi) (fun hf => he i H1 (e.trans e1) hi hf)⟩) (fun H' p => q Dl H' (Evl.fresh_back e1 p.1) (e1.trans p.2.1) p.2.2)⟩
theorem log2_lt {x : Int} (h : x.natAbs < 2 ^ 1000) : x.natAbs.log2 < 1000 := by
  by_cases h0 : x.natAbs = 0
  · rw [h0]; decide
  · exact (Nat.log2_lt h0).mpr h
theorem mulW {i j : Int} (h1 : i.natAbs < 2 ^ 1000) (h2 : j.natAbs < 2 ^ 1000) : CMulW i j := by
  have := log2_lt h1
  have := log2_lt h2
  unfold CMulW
  omega
theorem small {x : Int} (h : x.natAbs < 2 ^ 62) : x.natAbs < 2 ^ 1000 := Nat.lt_trans h (Nat.pow_lt_pow_right (by decide) (by decide))
theorem map_int (f : Nat → Int) (n : Nat) : (List.range n).map (fun i => V.int (f i)) = ((List.range n).map f).map V.int := by
  rw [List.map_map]
  rfl
theorem getD_range (f : Nat → Int) {n i : Nat} (h : i < n) : ((List.range n).map f).getD i 0 = f i := by
  rw [List.getD_eq_getElem?_getD, List.getElem?_map, List.getElem?_range h]
  rfl
theorem pappend {α β : Type} {F : α → β → Prop} : ∀ {l₁ : List α} {l₂ : List β} {m₁ : List α} {m₂ : List β}, Paired F l₁ l₂ → Paired F m₁ m₂ → Paired F (l₁ ++ m₁) (l₂ ++ m₂)
  | _, _, _, _, .nil, h => h
  | _, _, _, _, .cons f t, h => .cons f (pappend t h)
theorem pmap {α β γ : Type} {F : α → γ → Prop} (g : β → γ) : ∀ {l₁ : List α} {l₂ : List β}, Paired F l₁ (l₂.map g) → Paired (fun a b => F a (g b)) l₁ l₂
  | _, [], .nil => .nil
  | _, _ :: _, .cons f t => .cons f (pmap g t)
theorem pmap' {α β γ : Type} {F : α → γ → Prop} (g : β → γ) : ∀ {l₁ : List α} {l₂ : List β}, Paired (fun a b => F a (g b)) l₁ l₂ → Paired F l₁ (l₂.map g)
  | _, _, .nil => .nil
  | _, _, .cons f t => .cons f (pmap' g t)

end
end FB

/-! # WH -/
namespace FB
open PySem PySem.Spec PyProof.Rows L2
local macro_rules | `(tactic| walk_at "sx") => `(tactic| simp only [ap_Var, ap_C, ap_Op, ap_Un, ap_I, ap_I0, ap_U, ap_Eq, ap_Ne, ap_If, ap_Test, ap_B, ap_And, ap_Or, ap_Not, ap_AndV, ap_OrV, ap_NotV, ap_Chain, ap_CB, ap_Nil, ap_Cons, ap_Call, ap_Asg, ap_gName, ap_Seq, ap_Next, ap_Cont, ap_Ret, ap_IfS, ap_Par, ap_Par3, ap_Aug, ap_ip, ap_Drop, ap_gTup, ap_gCons, ap_gNil, ap_gSub, ap_Lst, ap_Tup, ap_Yes,
  List.getElem?_cons_zero, List.getElem?_cons_succ, List.set_cons_zero, List.set_cons_succ, Option.some.injEq, V.int.injEq, V.bl.injEq, V.ref.injEq, List.cons.injEq, and_true, true_and, exists_eq_left, exists_eq_left', exists_eq_right, exists_eq_right', exists_and_left, exists_and_right, List.append_nil, if_true, if_false, Bool.false_eq_true, Bool.not_true, Bool.not_false])
local macro_rules | `(tactic| walk_at "ev") => `(tactic| (intro H1 e1 Q1 q1; walk_at "sx"; exact q1 _ (Evl.Ex.refl _)))
section
variable {P : Program} {w : World} {K : PySem.W.Frag} {mg : Str → Option Value} {base : Heap}
/-! ### law -/
def sp_law (K : PySem.W.Frag) : Sp := fun vs H Q _ => ∃ (sc : Addr) (xs : List Int), vs = [.ref sc] ∧ SqL K H sc (xs.map V.int) ∧ ∀ H', Q (.bl true) H'
theorem ok_law (T : Txt K mg) : FnOk P w K mg base CX0 7 T.f_law T.d_law ["_law_script"] (sp_law K) := by
  have G__law_some_rule : FnOk P w K mg base CX0 3 T.f__law_some_rule T.d__law_some_rule ["_law_row"] (sp_some_rule K) := ok_some_rule T
  have G__law_taken : FnOk P w K mg base CX0 1 T.f__law_taken T.d__law_taken ["_law_row", "_law_many"] (sp_taken K) := ok_taken T
  have G__law_pick : FnOk P w K mg base CX0 2 T.f__law_pick T.d__law_pick ["_law_row", "_law_things"] (sp_pick K) := ok_pick T
  have G__law_step : FnOk P w K mg base CX0 2 T.f__law_step T.d__law_step ["_law_rule", "_law_board"] (sp_step K) := ok_step T
  have G__law_alike : FnOk P w K mg base CX0 2 T.f__law_alike T.d__law_alike ["_law_found", "_law_due"] sp_alike := ok_alike T
  have G_stills_in_strip : FnOk P w K mg base CX0 6 T.f_stills_in_strip T.d_stills_in_strip ["rule", "high", "wide"] sp_stills := ok_stills T
  have G_stills_far : FnOk P w K mg base CX0 6 T.f_stills_far T.d_stills_far ["rule", "high", "wide"] sp_stillsF := ok_stillsF T
  refine T.F_law.ok sc_law (fun vs H Q E h => ?_) (fun cdv A outer s H vs Q E hr h => ?_)
  · obtain ⟨sc, xs, rfl, _⟩ := h
    rfl
  · obtain ⟨sc, xs, rfl, hS, q⟩ := h
    refine ⟨_, (pss_cons (ps_asg (pe_lst (pa_cons (pv 0) (pa_cons pe_int (pa_cons pe_int (pa_cons pe_int pa_nil))))) (pg_name (i := 1) sc_law.nd rfl (Or.inl rfl)))
      (pss_cons (ps_asg (pe_call G__law_some_rule (hr.mono (by decide)) (by rfl) T.g__law_some_rule T.F__law_some_rule.kp T.b__law_some_rule .nil pass0 (pa_cons (pv 1) pa_nil)) (pg_name (i := 2) sc_law.nd rfl (Or.inr rfl)))
      (pss_cons (ps_asg (pe_call G__law_pick (hr.mono (by decide)) (by rfl) T.g__law_pick T.F__law_pick.kp T.b__law_pick .nil pass0 (pa_cons (pv 1) (pa_cons (pe_lst (pa_cons (pe_tup (pa_cons pe_int (pa_cons pe_int pa_nil))) (pa_cons (pe_tup (pa_cons pe_int (pa_cons pe_int pa_nil))) (pa_cons (pe_tup (pa_cons pe_int (pa_cons pe_int pa_nil))) (pa_cons (pe_tup (pa_cons pe_int (pa_cons pe_int pa_nil))) (pa_cons (pe_tup (pa_cons pe_int (pa_cons pe_int pa_nil))) pa_nil)))))) pa_nil))) (pgT (n := 2) K rfl (by rfl) (pgs_cons (pg_name (i := 3) sc_law.nd rfl (Or.inr rfl)) (pgs_cons (pg_name (i := 4) sc_law.nd rfl (Or.inl rfl)) pgs_nil))))
      (pss_cons (ps_asg (pe_tup (pa_cons pe_int (pa_cons (pe_op op_sub (pe_op op_shl pe_int pe_int) pe_int) pa_nil))) (pgT (n := 2) K rfl (by rfl) (pgs_cons (pg_name (i := 5) sc_law.nd rfl (Or.inl rfl)) (pgs_cons (pg_name (i := 6) sc_law.nd rfl (Or.inr rfl)) pgs_nil))))
      (pss_cons (ps_for PassesOwn.never rfl (pi_range1 (by rfl) T.z_range (pa_cons (pe_op op_shl pe_int (pe_op op_mulW (pv 3) (pv 4))) pa_nil)) (pg_name (i := 7) sc_law.nd rfl (Or.inr rfl)) (pss_cons (ps_asg (pe_lst pa_nil) (pg_name (i := 8) sc_law.nd rfl (Or.inl rfl)))
      (pss_cons (ps_for PassesOwn.never rfl (pi_range1 (by rfl) T.z_range (pa_cons (pv 4) pa_nil)) (pg_name (i := 9) sc_law.nd rfl (Or.inr rfl)) (pss_one (ps_asg (pe_op op_cat (pv 8) (pe_lc (own := [("_law_y", 22)]) (by rfl) sc_law.nd (pi_range1 (by rfl) T.z_range (pa_cons (pv 3) pa_nil)) (blkOk_by (N := N_law) (sc := defScope s_law) (by decide +kernel)) (fun _ _ _ _ _ => (pg_name (i := 22) sc_law.nd rfl (Or.inl rfl))) (fun _ _ _ _ _ => (pts_one (pt_cmpR op_eq (pe_op op_and (pe_op op_shr (pv 7) (pe_op op_add (pe_op op_mulW (pv 9) (pv 3)) (pv 22))) pe_int) pe_int (nomark _)))) (fun _ _ _ _ _ => (pe_tup (pa_cons (pv 9) (pa_cons (pv 22) (pa_cons pe_int pa_nil))))))) (pg_name (i := 8) sc_law.nd rfl (Or.inl rfl)))))
      (pss_one (ps_asg (pe_op op_add (pv 5) (pe_callTy call_int1 (by rfl) T.z_int (by decide +kernel) (pa_cons (pe_cmpR (eqD K hr.units rfl) (pe_call G__law_step (hr.mono (by decide)) (by rfl) T.g__law_step T.F__law_step.kp T.b__law_step .nil pass0 (pa_cons (pv 2) (pa_cons (pe_callTy (tupS K rfl) (by rfl) T.z_tuple (by decide +kernel) (pa_cons (pv 8) pa_nil)) pa_nil))) (pe_callTy (tupS K rfl) (by rfl) T.z_tuple (by decide +kernel) (pa_cons (pv 8) pa_nil)) (nomark _)) pa_nil))) (pg_name (i := 5) sc_law.nd rfl (Or.inl rfl)))))))
      (pss_cons (ps_if (pt_not (pt_val (pe_call G__law_alike (hr.mono (by decide)) (by rfl) T.g__law_alike T.F__law_alike.kp T.b__law_alike .nil pass0 (pa_cons (pe_lst (pa_cons (pe_call G_stills_in_strip (hr.mono (by decide)) (by rfl) T.g_stills_in_strip T.F_stills_in_strip.kp T.b_stills_in_strip .nil pass0 (pa_cons (pv 2) (pa_cons (pv 3) (pa_cons (pv 4) pa_nil)))) (pa_cons (pe_call G_stills_far (hr.mono (by decide)) (by rfl) T.g_stills_far T.F_stills_far.kp T.b_stills_far .nil pass0 (pa_cons (pv 2) (pa_cons (pv 3) (pa_cons (pv 4) pa_nil)))) pa_nil))) (pa_cons (pe_lst (pa_cons (pv 5) (pa_cons (pe_op op_mod (pv 5) (pv 6)) pa_nil))) pa_nil))))) (pss_one (ps_ret pe_bl)) pss_nil)
      (pss_cons (ps_asg (pe_call G__law_pick (hr.mono (by decide)) (by rfl) T.g__law_pick T.F__law_pick.kp T.b__law_pick .nil pass0 (pa_cons (pv 1) (pa_cons (pe_lst (pa_cons pe_int (pa_cons pe_int (pa_cons pe_int pa_nil)))) pa_nil))) (pg_name (i := 3) sc_law.nd rfl (Or.inr rfl)))
      (pss_cons (ps_asg (pe_lc (own := [("_law_at", 20)]) (by rfl) sc_law.nd (pi_range1 (by rfl) T.z_range (pa_cons pe_int pa_nil)) (blkOk_by (N := N_law) (sc := defScope s_law) (by decide +kernel)) (fun _ _ _ _ _ => (pg_name (i := 20) sc_law.nd rfl (Or.inl rfl))) (fun _ _ _ _ _ => pts_nil) (fun _ _ _ _ _ => (pe_call G_stills_in_strip (hr.mono (by decide)) (by rfl) T.g_stills_in_strip T.F_stills_in_strip.kp T.b_stills_in_strip .nil pass0 (pa_cons (pv 2) (pa_cons (pv 3) (pa_cons (pv 20) pa_nil)))))) (pg_name (i := 10) sc_law.nd rfl (Or.inr rfl)))
      (pss_cons (ps_if (PW.pt (pw_or (pt_cmpR op_ne (pe_ix (ixl K rfl) (pv 10) pe_int (fun _ _ => rfl)) pe_int (nomark _)) (pw_or1 (pt_cmpR (neD K hr.units rfl) (pe_lc (own := [("_law_at", 20)]) (by rfl) sc_law.nd (pi_range1 (by rfl) T.z_range (pa_cons pe_int pa_nil)) (blkOk_by (N := N_law) (sc := defScope s_law) (by decide +kernel)) (fun _ _ _ _ _ => (pg_name (i := 20) sc_law.nd rfl (Or.inl rfl))) (fun _ _ _ _ _ => (pts_one (pt_cmpR op_lt (pe_ix (ixl K rfl) (pv 10) (pv 20) (fun _ _ => rfl)) pe_int (nomark _)))) (fun _ _ _ _ _ => (pv 20))) (pe_lst pa_nil) (nomark _))))) (pss_one (ps_ret pe_bl)) pss_nil)
      (pss_cons (ps_asg (pe_call G__law_taken (hr.mono (by decide)) (by rfl) T.g__law_taken T.F__law_taken.kp T.b__law_taken .nil pass0 (pa_cons (pv 1) (pa_cons pe_int pa_nil))) (pg_name (i := 11) sc_law.nd rfl (Or.inl rfl)))
      (pss_cons (ps_if (pt_cmpR op_ne (pe_call G_stills_far (hr.mono (by decide)) (by rfl) T.g_stills_far T.F_stills_far.kp T.b_stills_far .nil pass0 (pa_cons (pv 2) (pa_cons (pv 3) (pa_cons (pv 11) pa_nil)))) (pe_op op_mod (pe_callTy call_int1 (by rfl) T.z_int (by decide +kernel) (pa_cons (pe_call G_stills_in_strip (hr.mono (by decide)) (by rfl) T.g_stills_in_strip T.F_stills_in_strip.kp T.b_stills_in_strip .nil pass0 (pa_cons (pv 2) (pa_cons (pv 3) (pa_cons (pv 11) pa_nil)))) pa_nil)) (pv 6)) (nomark _)) (pss_one (ps_ret pe_bl)) pss_nil)
      (pss_cons (ps_asg (pe_tup (pa_cons (pe_op op_add (pe_op op_shl pe_int pe_int) (pe_call G__law_taken (hr.mono (by decide)) (by rfl) T.g__law_taken T.F__law_taken.kp T.b__law_taken .nil pass0 (pa_cons (pv 1) (pa_cons (pe_op op_shl pe_int pe_int) pa_nil)))) (pa_cons pe_int pa_nil))) (pgT (n := 2) K rfl (by rfl) (pgs_cons (pg_name (i := 12) sc_law.nd rfl (Or.inr rfl)) (pgs_cons (pg_name (i := 13) sc_law.nd rfl (Or.inl rfl)) pgs_nil))))
      (pss_cons (ps_asg (pe_lc (own := [("_law_k", 21)]) (by rfl) sc_law.nd (pi_range1 (by rfl) T.z_range (pa_cons (pv 13) pa_nil)) (blkOk_by (N := N_law) (sc := defScope s_law) (by decide +kernel)) (fun _ _ _ _ _ => (pg_name (i := 21) sc_law.nd rfl (Or.inl rfl))) (fun _ _ _ _ _ => pts_nil) (fun _ _ _ _ _ => (pe_call G_stills_far (hr.mono (by decide)) (by rfl) T.g_stills_far T.F_stills_far.kp T.b_stills_far .nil pass0 (pa_cons (pv 2) (pa_cons pe_int (pa_cons (pe_op op_add (pv 12) (pv 21)) pa_nil)))))) (pg_name (i := 14) sc_law.nd rfl (Or.inr rfl)))
      (pss_cons (ps_asg (pe_lc (own := [("_law_k", 21)]) (by rfl) sc_law.nd (pi_range1 (by rfl) T.z_range (pa_cons pe_int pa_nil)) (blkOk_by (N := N_law) (sc := defScope s_law) (by decide +kernel)) (fun _ _ _ _ _ => (pg_name (i := 21) sc_law.nd rfl (Or.inl rfl))) (fun _ _ _ _ _ => pts_nil) (fun _ _ _ _ _ => (pe_call G_stills_in_strip (hr.mono (by decide)) (by rfl) T.g_stills_in_strip T.F_stills_in_strip.kp T.b_stills_in_strip .nil pass0 (pa_cons (pv 2) (pa_cons pe_int (pa_cons (pv 21) pa_nil)))))) (pg_name (i := 15) sc_law.nd rfl (Or.inr rfl)))
      (pss_cons (ps_for PassesOwn.never rfl (pi_range1 (by rfl) T.z_range (pa_cons pe_int pa_nil)) (pg_name (i := 16) sc_law.nd rfl (Or.inr rfl)) (pss_one (ps_for PassesOwn.never rfl (pi_range1 (by rfl) T.z_range (pa_cons pe_int pa_nil)) (pg_name (i := 17) sc_law.nd rfl (Or.inr rfl)) (pss_one (ps_for PassesOwn.never rfl (pi_range1 (by rfl) T.z_range (pa_cons pe_int pa_nil)) (pg_name (i := 18) sc_law.nd rfl (Or.inr rfl)) (pss_one (ps_if (pt_cmpR (eqD K hr.units rfl) (pe_lc (own := [("_law_k", 21)]) (by rfl) sc_law.nd (pi_range2 (by rfl) T.z_range (pa_cons pe_int (pa_cons pe_int pa_nil))) (blkOk_by (N := N_law) (sc := defScope s_law) (by decide +kernel)) (fun _ _ _ _ _ => (pg_name (i := 21) sc_law.nd rfl (Or.inl rfl))) (fun _ _ _ _ _ => (pts_one (pt_cmpR op_ne (pe_ix (ixl K rfl) (pv 15) (pv 21) (fun _ _ => rfl)) (pe_op op_add (pe_op op_add (pe_op op_mulW (pe_ix (ixl K rfl) (pv 15) (pe_op op_sub (pv 21) pe_int) (fun _ _ => rfl)) (pv 16)) (pe_op op_mulW (pe_ix (ixl K rfl) (pv 15) (pe_op op_sub (pv 21) pe_int) (fun _ _ => rfl)) (pe_op op_sub (pv 17) pe_int))) (pe_op op_mulW (pe_ix (ixl K rfl) (pv 15) (pe_op op_sub (pv 21) pe_int) (fun _ _ => rfl)) (pe_op op_sub (pv 18) pe_int))) (nomark _)))) (fun _ _ _ _ _ => (pv 21))) (pe_lst pa_nil) (nomark _)) (pss_cons (ps_setLc (i := 19) (own := [("_law_k", 21)]) (by rfl) sc_law.nd rfl rfl (sw_true rfl rfl rfl (by decide +kernel)) (pi_range2 (by rfl) T.z_range (pa_cons pe_int (pa_cons (pv 13) pa_nil))) (blkOk_by (N := N_law) (sc := defScope s_law) (by decide +kernel)) (fun _ _ _ _ _ => (pg_name (i := 21) sc_law.nd rfl (Or.inl rfl))) (fun _ _ _ _ _ => (pts_one (pt_cmpR op_ne (pe_ix (ixl K rfl) (pv 14) (pv 21) (fun _ _ => rfl)) (pe_op op_mod (pe_callTy call_int1 (by rfl) T.z_int (by decide +kernel) (pa_cons (pe_op op_add (pe_op op_add (pe_op op_mulW (pe_ix (ixl K rfl) (pv 14) (pe_op op_sub (pv 21) pe_int) (fun _ _ => rfl)) (pv 16)) (pe_op op_mulW (pe_ix (ixl K rfl) (pv 14) (pe_op op_sub (pv 21) pe_int) (fun _ _ => rfl)) (pe_op op_sub (pv 17) pe_int))) (pe_op op_mulW (pe_ix (ixl K rfl) (pv 14) (pe_op op_sub (pv 21) pe_int) (fun _ _ => rfl)) (pe_op op_sub (pv 18) pe_int))) pa_nil)) (pv 6)) (nomark _)))) (fun _ _ _ _ _ => (pv 21)))
      (pss_one (ps_ret (pe_cmpR (eqD K hr.units rfl) (pv 19) (pe_lst pa_nil) (nomark _))))) pss_nil)))))))
      (pss_one (ps_ret pe_bl))))))))))))))))), ?_⟩
    rw [show start N_law [V.ref sc] = [some (V.ref sc), none, none, none, none, none, none, none, none, none, none, none, none, none, none, none, none, none, none, none, none, none, none] from rfl]
    walk_at "sx"
    refine ⟨by simp [sizeLine_eq], fun row hrow => ?_⟩
    have hR0 : RowAt K (upd H row (.lst [V.ref sc, V.int 0, V.int 10827, V.int 0])) row sc xs := by
      refine ⟨0, 10827, 0, upd_same, ?_, Evl.ex_l (Evl.Ex.new hrow) hS⟩
      rcases hS with hS | hS
      · refine .inl fun e => ?_
        rw [e] at hS
        rcases hS with hS | ⟨o, hS⟩ <;> · rw [hrow] at hS; cases hS
      · exact .inr fun H => .inr hS
    generalize (upd H row (.lst [V.ref sc, V.int 0, V.int 10827, V.int 0])) = H0 at hR0 ⊢
    refine ⟨row, sc, xs, rfl, hR0, fun r H1 bs ss n o1 hR1 hr1 hI h2 => ?_⟩
    refine ⟨by simp [sizeLine_eq], fun t0 h0 => ⟨by simp [sizeLine_eq], fun t1 h1 => ⟨by simp [sizeLine_eq], fun t2 h2' => ⟨by simp [sizeLine_eq], fun t3 h3 => ⟨by simp [sizeLine_eq], fun t4 h4 => ⟨by simp [sizeLine_eq], fun tl hl => ?_⟩⟩⟩⟩⟩⟩
    have f0 := Evl.Ex.new (o := .tup [V.int 1, V.int 7]) h0
    have f1 := Evl.Ex.new (o := .tup [V.int 2, V.int 4]) h1
    have f2 := Evl.Ex.new (o := .tup [V.int 3, V.int 2]) h2'
    have f3 := Evl.Ex.new (o := .tup [V.int 2, V.int 3]) h3
    have f4 := Evl.Ex.new (o := .tup [V.int 1, V.int 5]) h4
    have f5 := Evl.Ex.new (o := .lst [V.ref t0, V.ref t1, V.ref t2, V.ref t3, V.ref t4]) hl
    have g0 := f5 _ _ (f4 _ _ (f3 _ _ (f2 _ _ (f1 t0 _ upd_same))))
    have g1 := f5 _ _ (f4 _ _ (f3 _ _ (f2 t1 _ upd_same)))
    have g2 := f5 _ _ (f4 _ _ (f3 t2 _ upd_same))
    have g3 := f5 _ _ (f4 t3 _ upd_same)
    have g4 := f5 t4 _ upd_same
    have f05 := f0.trans (f1.trans (f2.trans (f3.trans (f4.trans f5))))
    have gl := upd_same (H := upd (upd (upd (upd (upd H1 t0 (.tup [V.int 1, V.int 7])) t1 (.tup [V.int 2, V.int 4])) t2 (.tup [V.int 3, V.int 2])) t3 (.tup [V.int 2, V.int 3])) t4 (.tup [V.int 1, V.int 5])) (a := tl) (o := .lst [V.ref t0, V.ref t1, V.ref t2, V.ref t3, V.ref t4])
    have hlr : tl ≠ row := by
      obtain ⟨_, k⟩ := (hR1.ex (f0.trans (f1.trans (f2.trans (f3.trans f4))))).some_
      exact fun e => by rw [e, k] at hl; cases hl
    clear f0 f1 f2 f3 f4 f5 h0 h1 h2' h3 h4
    generalize (upd (upd (upd (upd (upd (upd H1 t0 (.tup [V.int 1, V.int 7])) t1 (.tup [V.int 2, V.int 4])) t2 (.tup [V.int 3, V.int 2])) t3 (.tup [V.int 2, V.int 3])) t4 (.tup [V.int 1, V.int 5])) tl (.lst [V.ref t0, V.ref t1, V.ref t2, V.ref t3, V.ref t4])) = Hf at g0 g1 g2 g3 g4 f05 gl ⊢
    have hpick : ∀ x ∈ [V.ref t0, V.ref t1, V.ref t2, V.ref t3, V.ref t4], ∃ (u : Addr) (hi : Int) (wd : Nat), x = .ref u ∧ Hf u = some (.tup [.int hi, .int (wd : Int)]) ∧ (1 ≤ hi ∧ hi ≤ 3) ∧ wd ≤ 7 ∧ hi.toNat * wd ≤ 8 := fun x hx => by
      simp only [List.mem_cons, List.not_mem_nil, or_false] at hx
      rcases hx with rfl | rfl | rfl | rfl | rfl
      · exact ⟨t0, 1, 7, rfl, g0, by decide, by decide, by decide⟩
      · exact ⟨t1, 2, 4, rfl, g1, by decide, by decide, by decide⟩
      · exact ⟨t2, 3, 2, rfl, g2, by decide, by decide, by decide⟩
      · exact ⟨t3, 2, 3, rfl, g3, by decide, by decide, by decide⟩
      · exact ⟨t4, 1, 5, rfl, g4, by decide, by decide, by decide⟩
    have hRf := hR1.ex f05
    have hrf := hr1.ex f05
    refine ⟨row, tl, sc, xs, _, rfl, hRf, gl, hlr, by simp, by simp, fun x hx H2 o2 hR2 => ?_⟩
    obtain ⟨u, hi, wd, rfl, hu, hh, hwd, hhw⟩ := hpick x hx
    obtain ⟨rl, hrl⟩ := hRf.some_
    have hr2 := RuleH.ox o2 hrl hrf
    have hu2 := o2 _ _ (ne_of hu hrl (by intro z; cases z)) hu
    clear hpick g0 g1 g2 g3 g4 gl hlr hrf hRf o2 o1 hR1 hr1 hR0 hx
    refine ⟨u, rfl, _, SqT.of hu2, rfl, _, _, rfl, _, _, rfl, rfl, ⟨by decide, by decide, by decide⟩, by simp [sizeLine_eq], fun p hp => ⟨_, SqT.of upd_same, rfl, _, _, rfl, _, _, rfl, rfl, ?_⟩⟩
    have ep := Evl.Ex.new (o := .tup [V.int 0, V.int (1 * 2 ^ Int.toNat 61 - 1)]) hp
    have hR3 := hR2.ex ep
    have hr3 := hr2.ex ep
    generalize (upd H2 p (.tup [V.int 0, V.int (1 * 2 ^ Int.toNat 61 - 1)])) = H3 at hR3 hr3 ⊢
    clear ep hR2 hr2 hu2
    rw [show (1 * 2 ^ Int.toNat 61 - 1 : Int) = M.PI by decide]
    obtain ⟨hn, rfl⟩ : ∃ hn : Nat, hi = (hn : Int) := Int.eq_ofNat_of_zero_le (by omega)
    rw [Int.toNat_natCast] at hhw
    have hN : 2 ^ (hn * wd) ≤ 256 := Nat.le_trans (Nat.pow_le_pow_right (by decide) hhw) (by decide)
    have hcm : ∀ i j : Nat, i ≤ 1000 → j ≤ 1000 → CMulW (i : Int) (j : Int) := fun i j h1 h2 => mulW (small (by omega)) (small (by omega))
    refine Evl.s_forR1 (n := ((2 ^ (hn * wd) : Nat) : Int)) ?_ (by have := hN; generalize 2 ^ (hn * wd) = NN at this ⊢; omega) (fun k σ H' => ∃ (y7 y8 y9 : Option V), σ = [some (V.ref sc), some (V.ref row), some (V.ref r), some (V.int (hn : Int)), some (V.int (wd : Int)), some (V.int (cntB bs ss hn wd k)), some (V.int M.PI), y7, y8, y9, none, none, none, none, none, none, none, none, none, none, none, none, none] ∧ Evl.Ex H3 H')
      (fun H4 e4 => ⟨none, none, none, rfl, e4⟩) ?_ ?_
    · intro H4 e4 Q4 q4
      walk_at "sx"
      refine ⟨hcm hn wd (by omega) (by omega), ⟨by omega, by omega, by decide⟩, ?_⟩
      rw [show (1 * 2 ^ ((hn : Int) * (wd : Int)).toNat : Int) = ((2 ^ (hn * wd) : Nat) : Int) by
        rw [Int.one_mul, ← Int.natCast_mul, Int.toNat_natCast, Int.natCast_pow]; rfl]
      exact q4 _ (Evl.Ex.refl _)
    · rintro k _ H4 hk ⟨y7, y8, y9, rfl, e4⟩
      have hk2 : k < 2 ^ (hn * wd) := by omega
      simp only [List.set_cons_zero, List.set_cons_succ]
      walk_at "sx"
      refine ⟨by decide, fun Bd hBd => ?_⟩
      refine Evl.s_forR1 (n := (wd : Int)) (by walk_at "ev") (by omega) (fun x σ H' => ∃ (B : Addr) (ts : List Addr) (y9 : Option V), σ = [some (V.ref sc), some (V.ref row), some (V.ref r), some (V.int (hn : Int)), some (V.int (wd : Int)), some (V.int (cntB bs ss hn wd k)), some (V.int M.PI), some (V.int (k : Int)), some (V.ref B), y9, none, none, none, none, none, none, none, none, none, none, none, none, none] ∧ Evl.Ex H3 H' ∧
          H' B = some (.lst (ts.map V.ref)) ∧ Paired (fun t c => H' t = some (.tup (cellV c))) ts (onesOf (boardS hn x k))) (fun H5 e5 => ⟨Bd, [], y9, rfl, (e4.trans (Evl.Ex.new hBd)).trans e5, e5 _ _ upd_same, .nil⟩) ?_ ?_
      · rintro x _ H5 hx ⟨B, ts, y9, rfl, e5, hB, hts⟩
        simp only [List.set_cons_zero, List.set_cons_succ]
        walk_at "sx"
        have hxw : x < wd := by omega
        have htl : ts.length ≤ 56 := by
          have h1 := Paired.length hts
          have h2 := boardS_len hn k x
          have h3 : x * hn ≤ 7 * 3 := Nat.mul_le_mul (by omega) (by omega)
          unfold onesOf at h1
          rw [List.length_map] at h1
          omega
        refine lcTups (n := hn) (fun y => [V.int (x : Int), V.int (y : Int), V.int 1]) (fun y => decide (k / 2 ^ (x * hn + y) % 2 = 1)) (by walk_at "ev") (by omega) (fun _ => rfl) (fun y H6 e6 hy => ?_) (fun y H6 e6 hy _ => ?_) (fun D us H6 e6 hD hD6 hus => ?_)
        · intro H7 e7 Q7 q7
          show tTest _ [some (V.ref sc), some (V.ref row), some (V.ref r), some (V.int (hn : Int)), some (V.int (wd : Int)), some (V.int (cntB bs ss hn wd k)), some (V.int M.PI), some (V.int (k : Int)), some (V.ref B), some (V.int (x : Int)), none, none, none, none, none, none, none, none, none, none, none, none, some (V.int (y : Int))] H7 Q7
          walk_at "sx"
          have hxy : (x : Int) * (hn : Int) + (y : Int) = ((x * hn + y : Nat) : Int) := by rw [Int.natCast_add, Int.natCast_mul]
          rw [hxy]
          have hd : (k : Int) / 2 ^ (((x * hn + y : Nat) : Int)).toNat = ((k / 2 ^ (x * hn + y) : Nat) : Int) := by
            rw [Int.toNat_natCast, Int.natCast_ediv, Int.natCast_pow]; rfl
          rw [hd, bit1 (Int.natCast_nonneg _)]
          refine ⟨hcm x hn (by omega) (by omega), Int.natCast_nonneg _, rfl, ?_⟩
          have := q7 H7 (Evl.Ex.refl _)
          rw [show decide (((k / 2 ^ (x * hn + y) : Nat) : Int) % 2 = 1) = decide (k / 2 ^ (x * hn + y) % 2 = 1) by
            generalize k / 2 ^ (x * hn + y) = z
            by_cases hz : z % 2 = 1
            · rw [decide_eq_true hz, decide_eq_true (by omega)]
            · rw [decide_eq_false hz, decide_eq_false (by omega)]]
          exact this
        · intro H7 e7 Q7 q7
          show tTup _ [some (V.ref sc), some (V.ref row), some (V.ref r), some (V.int (hn : Int)), some (V.int (wd : Int)), some (V.int (cntB bs ss hn wd k)), some (V.int M.PI), some (V.int (k : Int)), some (V.ref B), some (V.int (x : Int)), none, none, none, none, none, none, none, none, none, none, none, none, some (V.int (y : Int))] H7 Q7
          walk_at "sx"
          exact ⟨by simp [sizeLine_eq], fun p hp => q7 p _ hp (Evl.Ex.new hp) upd_same⟩
        · have hul : us.length ≤ 3 := by
            have h1 := Paired.length hus
            rw [List.length_map] at h1
            have h2 := List.length_filter_le (fun y => decide (k / 2 ^ (x * hn + y) % 2 = 1)) (List.range hn)
            rw [List.length_range] at h2
            omega
          refine ⟨B, D, _, _, rfl, rfl, e6 _ _ hB, hD6, ?_, fun N hN6 => ?_⟩
          · rw [List.length_map, List.length_map]
            exact Nat.le_trans (show ts.length + us.length ≤ 100 by omega) (by decide)
          · have x6 := Evl.Ex.new (o := .lst (ts.map V.ref ++ us.map V.ref)) hN6
            refine ⟨N, rfl, (e5.trans e6).trans x6, ts ++ us, by rw [upd_same, List.map_append], ?_⟩
            rw [boardS_succ]
            unfold onesOf at hts ⊢
            rw [List.map_append]
            refine Paired.mapP (pappend (F := fun t c => H6 t = some (.tup (cellV c))) (Paired.mapP hts fun _ _ h => e6 _ _ h) ?_) fun _ _ h => x6 _ _ h
            refine pmap' (fun p : PP => ((p.1, p.2, 1) : Cell)) ?_
            unfold colS
            exact pmap' (fun (y : Nat) => (((x : Int), (y : Int)) : PP)) (pmap (fun (y : Nat) => [V.int (x : Int), V.int (y : Int), V.int 1]) hus)
      · rintro _ H5 ⟨B, ts, y9, rfl, e5, hB, hts⟩
        rw [Int.toNat_natCast] at hts
        walk_at "sx"
        refine ⟨B, _, rfl, .inl ⟨SqL.of hB, fun t1 ht1 => ?_⟩⟩
        have x1 := Evl.Ex.new (o := .tup (ts.map V.ref)) ht1
        have hbl : (boardS hn wd k).length ≤ 100 := by
          have h2 := boardS_len hn k wd
          rw [Nat.mul_comm] at h2
          omega
        refine ⟨r, t1, bs, ss, n, boardS hn wd k, rfl, (hr3.ex (e5.trans x1)).at_, ⟨ts, SqT.of upd_same, Paired.mapP hts fun _ _ h => SqT.of (x1 _ _ h)⟩, boardS_nd _ _ _, hbl, fun qa H6 places e6 hpl hq => ?_⟩
        refine ⟨B, _, rfl, .inl ⟨SqL.of ((x1.trans e6) _ _ hB), fun t2 ht2 => ?_⟩⟩
        have x2 := Evl.Ex.new (o := .tup (ts.map V.ref)) ht2
        refine eqD_cells (hq.ex x2) ⟨ts, SqT.of upd_same, Paired.mapP hts fun _ _ h => SqT.of ((x1.trans (e6.trans x2)) _ _ h)⟩ ?_
        have hs := step_rest (h := (hn : Int)) (w := wd) (k := k) (places := places) hI h2 hh (by rw [Int.toNat_natCast]; exact hk2) (by rw [Int.toNat_natCast]; exact hpl)
        rw [Int.toNat_natCast] at hs
        rw [hs]
        exact .inr ⟨_, rfl, (cntB_succ bs ss hn wd k).symm, e5.trans (x1.trans (e6.trans x2))⟩
    · rintro _ H4 ⟨y7, y8, y9, rfl, e4⟩
      have hcnt : cntB bs ss hn wd (2 ^ (hn * wd)) = enM bs ss hn wd := by
        have := en_cnt (bs := bs) (ss := ss) hh wd
        rw [Int.toNat_natCast] at this
        exact this.symm
      rw [Int.toNat_natCast, hcnt]
      have hR4 := hR3.ex e4
      have hr4 := hr3.ex e4
      clear hR3 hr3 hcm hcnt
      walk_at "sx"
      refine ⟨r, bs, ss, n, hn, wd, rfl, hr4, hI, hh, by omega, fun H5 e5 => ⟨r, bs, ss, n, hn, wd, rfl, hr4.ex e5, hI, hh, by omega, fun H6 e6 => ?_⟩⟩
      refine ⟨by simp [sizeLine_eq], fun pa hpa => ?_⟩
      have xa := Evl.Ex.new (o := .lst [V.int (enM bs ss hn wd), V.int (enM bs ss hn wd % M.PI)]) hpa
      refine ⟨by decide, by simp [sizeLine_eq], fun pb hpb => ?_⟩
      have xb := Evl.Ex.new (o := .lst [V.int (enM bs ss hn wd), V.int (enM bs ss hn wd % M.PI)]) hpb
      refine ⟨pa, pb, _, _, rfl, xb _ _ upd_same, upd_same, fun H7 e7 => ?_⟩
      have e47 := e5.trans (e6.trans (xa.trans (xb.trans e7)))
      have hR7 := hR4.ex e47
      have hr7 := hr4.ex e47
      refine ⟨true, rfl, ?_⟩
      rw [if_neg (by decide)]
      clear hR4 hr4 e47 xa xb e5 e6 e7 hpa hpb e4
      refine ⟨by simp [sizeLine_eq], fun pl hpl => ?_⟩
      have xl := Evl.Ex.new (o := .lst [V.int 1, V.int 1, V.int 2]) hpl
      have hplr : pl ≠ row := by
        obtain ⟨_, k⟩ := hR7.some_
        exact fun e => by rw [e, k] at hpl; cases hpl
      refine ⟨row, pl, sc, xs, _, rfl, hR7.ex xl, upd_same, hplr, by simp, by simp, fun x hx H8 o8 hR8 => ?_⟩
      obtain ⟨h8, rfl, hh8⟩ : ∃ m : Nat, x = V.int (m : Int) ∧ (1 ≤ (m : Int) ∧ (m : Int) ≤ 3) := by
        simp only [List.mem_cons, List.not_mem_nil, or_false] at hx
        rcases hx with rfl | rfl | rfl
        · exact ⟨1, rfl, by decide⟩
        · exact ⟨1, rfl, by decide⟩
        · exact ⟨2, rfl, by decide⟩
      obtain ⟨rl7, hrl7⟩ := (hR7.ex xl).some_
      have hr8 := RuleH.ox o8 hrl7 (hr7.ex xl)
      clear hR7 hr7 o8 hrl7 hplr xl hpl hx
      have h0bs : (0 : Int) ∉ bs := fun h => by have := h2 0 h; omega
      have hL26 := lcR1 (σ := [some (V.ref sc), some (V.ref row), some (V.ref r), some (V.int (h8 : Int)), some (V.int (wd : Int)), some (V.int (enM bs ss hn wd)), some (V.int M.PI), y7, y8, y9, none, none, none, none, none, none, none, none, none, none, none, none, none]) (H := H8) (j := 20) (vs := [20]) (n := 26) (ta := tCons (tC (V.int 26)) tNil)
        (te := tCall sp_stills [] E0 (tCons (tVar 2) (tCons (tVar 3) (tCons (tVar 20) tNil)))) (fun i => V.int (enM bs ss h8 i)) (by walk_at "ev") (by decide) (fun _ => rfl) (fun i H9 e9 hi => ?_)
      rotate_left
      · intro H10 e10 Q10 q10
        show tCall _ _ _ _ [some (V.ref sc), some (V.ref row), some (V.ref r), some (V.int (h8 : Int)), some (V.int (wd : Int)), some (V.int (enM bs ss hn wd)), some (V.int M.PI), y7, y8, y9, none, none, none, none, none, none, none, none, none, none, some (V.int (i : Int)), none, none] H10 Q10
        walk_at "sx"
        exact ⟨r, bs, ss, n, h8, i, rfl, hr8.ex (e9.trans e10), hI, hh8, by omega, fun H11 e11 => q10 _ e11⟩
      refine hL26 H8 (Evl.Ex.refl _) _ fun N H9 hN0 e9 hN9 => ?_
      clear hL26
      rw [map_int] at hN9
      have hlen26 : ((List.range (26 : Int).toNat).map fun i => enM bs ss h8 i).length = 26 := by simp
      refine ixI (SqL.of hN9) (by decide) (by rw [hlen26]; decide) ?_
      rw [getD_range (fun i => enM bs ss h8 i) (by decide), show ((0 : Int).toNat) = 0 from rfl, en_zero hh8 h0bs]
      refine ⟨rfl, ?_⟩
      rw [if_neg (by decide)]
      have hF26 := Evl.el_lcR1 (σ := [some (V.ref sc), some (V.ref row), some (V.ref r), some (V.int (h8 : Int)), some (V.int (wd : Int)), some (V.int (enM bs ss hn wd)), some (V.int M.PI), y7, y8, y9, some (V.ref N), none, none, none, none, none, none, none, none, none, none, none, none]) (H := H9) (j := 20) (vs := [20]) (n := 26) (ta := tCons (tC (V.int 26)) tNil)
        (t := tTest (tOp (rI0 fun i j => V.bl (decide (i < j))) (tOp (rIxL K) (tVar 10) (tVar 20)) (tC (V.int 1)))) (te := tVar 20) (fun _ => false) (fun i => V.int (i : Int)) (by walk_at "ev") (by decide) (fun _ => rfl) (fun i H10 e10 hi => ?_) (fun i H10 e10 hi hf => by cases hf)
      rotate_left
      · intro H11 e11 Q11 q11
        show tTest _ [some (V.ref sc), some (V.ref row), some (V.ref r), some (V.int (h8 : Int)), some (V.int (wd : Int)), some (V.int (enM bs ss hn wd)), some (V.int M.PI), y7, y8, y9, some (V.ref N), none, none, none, none, none, none, none, none, none, some (V.int (i : Int)), none, none] H11 Q11
        walk_at "sx"
        refine ixI (SqL.of ((e10.trans e11) _ _ hN9)) (by omega) (by rw [hlen26]; omega) ?_
        rw [getD_range (fun i => enM bs ss h8 i) (by omega)]
        refine ⟨_, rfl, ?_⟩
        have hp := en_pos (ss := ss) hh8 h0bs (i : Int).toNat
        rw [decide_eq_false (by omega)]
        exact q11 _ (Evl.Ex.refl _)
      refine hF26 H9 (Evl.Ex.refl _) _ fun Z H10 hZ0 e10 hZ => ?_
      clear hF26
      rw [given_none] at hZ
      refine ⟨by decide, fun Z2 hZ2 => ?_⟩
      have xz := Evl.Ex.new (o := .lst []) hZ2
      refine neD_ints (ns := []) (ms := []) (SqL.of (xz _ _ hZ)) (SqL.of upd_same) ⟨_, rfl, ?_⟩
      rw [if_neg (by decide)]
      generalize (upd H10 Z2 (.lst [])) = H11 at xz ⊢
      have e811 := e9.trans (e10.trans xz)
      refine ⟨row, sc, xs, 60, rfl, hR8.ex e811, by decide, by decide, fun f12 H12 o12 hR12 hf12 => ?_⟩
      obtain ⟨rl8, hrl8⟩ := (hR8.ex e811).some_
      have hr12 := RuleH.ox o12 hrl8 (hr8.ex e811)
      clear e811 xz hZ hZ0 hZ2 e9 e10 hN9 hN0 o12 hrl8 hR8 hr8
      obtain ⟨fn, rfl⟩ : ∃ fn : Nat, f12 = (fn : Int) := Int.eq_ofNat_of_zero_le hf12.1
      refine ⟨r, bs, ss, n, h8, fn, rfl, hr12, hI, hh8, by omega, fun H13 e13 => ⟨r, bs, ss, n, h8, fn, rfl, hr12.ex e13, hI, hh8, by omega, fun H14 e14 => ?_⟩⟩
      refine .inl ⟨_, rfl, by decide, rfl, ?_⟩
      rw [if_neg (by simp)]
      have e1214 := e13.trans e14
      refine ⟨⟨by decide, by decide, by decide⟩, ⟨by decide, by decide, by decide⟩, row, sc, xs, _, rfl, hR12.ex e1214, by decide, by decide, fun d15 H15 o15 hR15 hd15 => ⟨_, rfl, by simp [sizeLine_eq], fun p16 hp16 => ?_⟩⟩
      obtain ⟨rl14, hrl14⟩ := (hR12.ex e1214).some_
      have hr15 := RuleH.ox o15 hrl14 (hr12.ex e1214)
      have x16 := Evl.Ex.new (o := .tup [V.int (1 * 2 ^ Int.toNat 80 + d15), V.int 17]) hp16
      have h80 : (1 * 2 ^ Int.toNat 80 : Int) = 1208925819614629174706176 := by decide
      obtain ⟨S0, hS0⟩ : ∃ S0 : Nat, (1 * 2 ^ Int.toNat 80 + d15 : Int) = (S0 : Int) := Int.eq_ofNat_of_zero_le (by rw [h80]; omega)
      have hS1 : 100 ≤ S0 ∧ S0 ≤ 2 ^ 90 := by
        have h70 : (1 * 2 ^ Int.toNat 70 : Int) = 1180591620717411303424 := by decide
        rw [h70] at hd15
        rw [h80] at hS0
        omega
      refine ⟨_, SqT.of upd_same, rfl, _, _, rfl, _, _, rfl, rfl, ?_⟩
      rw [hS0] at x16 ⊢
      have hr16 := hr15.ex x16
      generalize (upd H15 p16 (.tup [V.int (S0 : Int), V.int 17])) = H16 at hr16 ⊢
      clear x16 hr15 hrl14 o15 hR15 hR12 hr12 e1214 e13 e14 hS0 hd15 hp16
      have h1 : (1 : Int) ≤ 1 ∧ (1 : Int) ≤ 3 := by decide
      have hrows := lcR1 (σ := [some (V.ref sc), some (V.ref row), some (V.ref r), some (V.int (h8 : Int)), some (V.int (wd : Int)), some (V.int (enM bs ss hn wd)), some (V.int M.PI), y7, y8, y9, some (V.ref N), some (V.int (fn : Int)), some (V.int (S0 : Int)), some (V.int 17), none, none, none, none, none, none, none, none, none]) (H := H16) (j := 21) (vs := [21]) (n := 17) (ta := tCons (tVar 13) tNil)
        (te := tCall sp_stillsF [] E0 (tCons (tVar 2) (tCons (tC (V.int 1)) (tCons (tOp (rI0 fun i j => V.int (i + j)) (tVar 12) (tVar 21)) tNil)))) (fun i => V.int (enM bs ss 1 (S0 + i) % M.PI)) (by walk_at "ev") (by decide) (fun _ => rfl) (fun i H17 e17 hi => ?_)
      rotate_left
      · intro H18 e18 Q18 q18
        show tCall _ _ _ _ [some (V.ref sc), some (V.ref row), some (V.ref r), some (V.int (h8 : Int)), some (V.int (wd : Int)), some (V.int (enM bs ss hn wd)), some (V.int M.PI), y7, y8, y9, some (V.ref N), some (V.int (fn : Int)), some (V.int (S0 : Int)), some (V.int 17), none, none, none, none, none, none, none, some (V.int (i : Int)), none] H18 Q18
        walk_at "sx"
        refine ⟨r, bs, ss, n, 1, S0 + i, rfl, hr16.ex (e17.trans e18), hI, h1, by omega, fun H19 e19 => q18 _ e19⟩
      refine hrows H16 (Evl.Ex.refl _) _ fun W H17 hW0 e17 hW17 => ?_
      clear hrows
      rw [map_int] at hW17
      have hnear := lcR1 (σ := [some (V.ref sc), some (V.ref row), some (V.ref r), some (V.int (h8 : Int)), some (V.int (wd : Int)), some (V.int (enM bs ss hn wd)), some (V.int M.PI), y7, y8, y9, some (V.ref N), some (V.int (fn : Int)), some (V.int (S0 : Int)), some (V.int 17), some (V.ref W), none, none, none, none, none, none, none, none]) (H := H17) (j := 21) (vs := [21]) (n := 40) (ta := tCons (tC (V.int 40)) tNil)
        (te := tCall sp_stills [] E0 (tCons (tVar 2) (tCons (tC (V.int 1)) (tCons (tVar 21) tNil)))) (fun i => V.int (enM bs ss 1 i)) (by walk_at "ev") (by decide) (fun _ => rfl) (fun i H18 e18 hi => ?_)
      rotate_left
      · intro H19 e19 Q19 q19
        show tCall _ _ _ _ [some (V.ref sc), some (V.ref row), some (V.ref r), some (V.int (h8 : Int)), some (V.int (wd : Int)), some (V.int (enM bs ss hn wd)), some (V.int M.PI), y7, y8, y9, some (V.ref N), some (V.int (fn : Int)), some (V.int (S0 : Int)), some (V.int 17), some (V.ref W), none, none, none, none, none, none, some (V.int (i : Int)), none] H19 Q19
        walk_at "sx"
        exact ⟨r, bs, ss, n, 1, i, rfl, hr16.ex (e17.trans (e18.trans e19)), hI, h1, by omega, fun H20 e20 => q19 _ e20⟩
      refine hnear H17 (Evl.Ex.refl _) _ fun G H18 hG0 e18 hG18 => ?_
      clear hnear
      rw [map_int] at hG18
      have hW18 := e18 _ _ hW17
      have hl40 : ((List.range (40 : Int).toNat).map fun i => enM bs ss 1 i).length = 40 := by simp
      have hl17 : ((List.range (17 : Int).toNat).map fun i => enM bs ss 1 (S0 + i) % M.PI).length = 17 := by simp
      have hgb : ∀ i : Nat, i < 40 → (enM bs ss 1 i).natAbs < 2 ^ 62 := fun i hi => by
        have k1 := en_le (bs := bs) (ss := ss) h1 i
        have k2 := en_pos (ss := ss) h1 h0bs i
        have k3 : 2 ^ (Int.toNat 1 * i) ≤ 2 ^ 40 := Nat.pow_le_pow_right (by decide) (by rw [show Int.toNat 1 = 1 from rfl]; omega)
        generalize 2 ^ (Int.toNat 1 * i) = z at k1 k3
        generalize enM bs ss 1 i = y at k1 k2 ⊢
        omega
      refine Evl.s_forR1 (n := 4) (by walk_at "ev") (by decide) (fun a σ H' => ∃ (y16 y17 y18 : Option V), σ = [some (V.ref sc), some (V.ref row), some (V.ref r), some (V.int (h8 : Int)), some (V.int (wd : Int)), some (V.int (enM bs ss hn wd)), some (V.int M.PI), y7, y8, y9, some (V.ref N), some (V.int (fn : Int)), some (V.int (S0 : Int)), some (V.int 17), some (V.ref W), some (V.ref G), y16, y17, y18, none, none, none, none] ∧ Evl.Ex H18 H') (fun H19 e19 => ⟨none, none, none, rfl, e19⟩) ?_ ?_
      · rintro a _ H19 ha ⟨y16, y17, y18, rfl, e19⟩
        simp only [List.set_cons_zero, List.set_cons_succ]
        refine Evl.s_forR1 (n := 4) (by walk_at "ev") (by decide) (fun b σ H' => ∃ (y17 y18 : Option V), σ = [some (V.ref sc), some (V.ref row), some (V.ref r), some (V.int (h8 : Int)), some (V.int (wd : Int)), some (V.int (enM bs ss hn wd)), some (V.int M.PI), y7, y8, y9, some (V.ref N), some (V.int (fn : Int)), some (V.int (S0 : Int)), some (V.int 17), some (V.ref W), some (V.ref G), some (V.int (a : Int)), y17, y18, none, none, none, none] ∧ Evl.Ex H18 H') (fun H20 e20 => ⟨y17, y18, rfl, e19.trans e20⟩) ?_ ?_
        · rintro b _ H20 hb ⟨y17, y18, rfl, e20⟩
          simp only [List.set_cons_zero, List.set_cons_succ]
          refine Evl.s_forR1 (n := 3) (by walk_at "ev") (by decide) (fun c σ H' => ∃ (y18 : Option V), σ = [some (V.ref sc), some (V.ref row), some (V.ref r), some (V.int (h8 : Int)), some (V.int (wd : Int)), some (V.int (enM bs ss hn wd)), some (V.int M.PI), y7, y8, y9, some (V.ref N), some (V.int (fn : Int)), some (V.int (S0 : Int)), some (V.int 17), some (V.ref W), some (V.ref G), some (V.int (a : Int)), some (V.int (b : Int)), y18, none, none, none, none] ∧ Evl.Ex H18 H') (fun H21 e21 => ⟨y18, rfl, e20.trans e21⟩) ?_ ?_
          · rintro c _ H21 hc ⟨y18, rfl, e21⟩
            simp only [List.set_cons_zero, List.set_cons_succ]
            have hT := elR2 (σ := [some (V.ref sc), some (V.ref row), some (V.ref r), some (V.int (h8 : Int)), some (V.int (wd : Int)), some (V.int (enM bs ss hn wd)), some (V.int M.PI), y7, y8, y9, some (V.ref N), some (V.int (fn : Int)), some (V.int (S0 : Int)), some (V.int 17), some (V.ref W), some (V.ref G), some (V.int (a : Int)), some (V.int (b : Int)), some (V.int (c : Int)), none, none, none, none]) (H := H21) (j := 21) (vs := [21]) (ta := tCons (tC (V.int 12)) (tCons (tC (V.int 40)) tNil)) (te := tVar 21)
              (t := (tTest (tOp rNe (tOp (rIxL K) (tVar 15) (tVar 21)) (tOp (rI0 fun i j => V.int (i + j)) (tOp (rI0 fun i j => V.int (i + j)) (tOp (rI CMulW fun i j => V.int (i * j)) (tOp (rIxL K) (tVar 15) (tOp (rI0 fun i j => V.int (i - j)) (tVar 21) (tC (V.int 1)))) (tVar 16)) (tOp (rI CMulW fun i j => V.int (i * j)) (tOp (rIxL K) (tVar 15) (tOp (rI0 fun i j => V.int (i - j)) (tVar 21) (tC (V.int 2)))) (tOp (rI0 fun i j => V.int (i - j)) (tVar 17) (tC (V.int 1))))) (tOp (rI CMulW fun i j => V.int (i * j)) (tOp (rIxL K) (tVar 15) (tOp (rI0 fun i j => V.int (i - j)) (tVar 21) (tC (V.int 3)))) (tOp (rI0 fun i j => V.int (i - j)) (tVar 18) (tC (V.int 1)))))))) 12 28 (fun i => !decide (enM bs ss 1 (12 + i) = enM bs ss 1 (12 + i - 1) * a + enM bs ss 1 (12 + i - 2) * ((b : Int) - 1) + enM bs ss 1 (12 + i - 3) * ((c : Int) - 1))) (fun i => V.int ((12 + i : Nat) : Int)) (by walk_at "ev") (by decide) (fun _ => rfl) (fun i H22 e22 hi => ?_) (fun i H22 e22 hi hf => ?_)
            rotate_left
            · intro H23 e23 Q23 q23
              show tTest _ [some (V.ref sc), some (V.ref row), some (V.ref r), some (V.int (h8 : Int)), some (V.int (wd : Int)), some (V.int (enM bs ss hn wd)), some (V.int M.PI), y7, y8, y9, some (V.ref N), some (V.int (fn : Int)), some (V.int (S0 : Int)), some (V.int 17), some (V.ref W), some (V.ref G), some (V.int (a : Int)), some (V.int (b : Int)), some (V.int (c : Int)), none, none, some (V.int (12 + (i : Int))), none] H23 Q23
              walk_at "sx"
              have hG23 := (e21.trans (e22.trans e23)) _ _ hG18
              have rdG : ∀ (m : Nat) (z : Int) (Qz : VK), m < 40 → z = (m : Int) → Qz (.int (enM bs ss 1 m)) H23 → rIxL K (.ref G) (.int z) H23 Qz := fun m z Qz hm hz hq => by
                subst hz
                refine ixI (SqL.of hG23) (Int.natCast_nonneg _) (by rw [hl40]; omega) ?_
                rw [Int.toNat_natCast, getD_range (fun i => enM bs ss 1 i) (show m < (40 : Int).toNat from hm)]
                exact hq
              have hsm : ∀ x : Int, -5 ≤ x ∧ x ≤ 5 → x.natAbs < 2 ^ 1000 := fun x hx => small (by omega)
              refine rdG (12 + i) _ _ (by omega) (by omega) (rdG (12 + i - 1) _ _ (by omega) (by omega) ⟨_, rfl, mulW (small (hgb _ (by omega))) (hsm _ (by omega)), rdG (12 + i - 2) _ _ (by omega) (by omega) ⟨_, rfl, mulW (small (hgb _ (by omega))) (hsm _ (by omega)), rdG (12 + i - 3) _ _ (by omega) (by omega) ⟨_, rfl, mulW (small (hgb _ (by omega))) (hsm _ (by omega)), rfl, ?_⟩⟩⟩)
              have := q23 H23 (Evl.Ex.refl _)
              rw [show ∀ x y : Int, decide (V.int x = V.int y) = decide (x = y) from fun x y => by simp]
              exact this
            · intro H23 e23 Q23 q23
              show tVar 21 [some (V.ref sc), some (V.ref row), some (V.ref r), some (V.int (h8 : Int)), some (V.int (wd : Int)), some (V.int (enM bs ss hn wd)), some (V.int M.PI), y7, y8, y9, some (V.ref N), some (V.int (fn : Int)), some (V.int (S0 : Int)), some (V.int 17), some (V.ref W), some (V.ref G), some (V.int (a : Int)), some (V.int (b : Int)), some (V.int (c : Int)), none, none, some (V.int (12 + (i : Int))), none] H23 Q23
              walk_at "sx"
              rw [show (12 + (i : Int)) = ((12 + i : Nat) : Int) by omega]
              exact q23 _ (Evl.Ex.refl _)
            walk_at "sx"
            refine hT H21 (Evl.Ex.refl _) _ fun L H22 hL0 e22 hL22 => ?_
            clear hT
            refine ⟨by decide, fun p2 hp2 => ?_⟩
            have x2 := Evl.Ex.new (o := .lst []) hp2
            unfold Evl.given at hL22
            have hL23 : H22 L = some (.lst ((((List.range 28).filter fun i => !decide (enM bs ss 1 (12 + i) = enM bs ss 1 (12 + i - 1) * a + enM bs ss 1 (12 + i - 2) * ((b : Int) - 1) + enM bs ss 1 (12 + i - 3) * ((c : Int) - 1))).map fun i => ((12 + i : Nat) : Int)).map V.int)) := by
              rw [hL22, List.map_map]
              rfl
            refine eqD_ints (ms := []) (SqL.of (x2 _ _ hL23)) (SqL.of upd_same) ⟨_, rfl, ?_⟩
            have e23 := e21.trans (e22.trans x2)
            generalize (upd H22 p2 (.lst [])) = H23 at e23 ⊢
            by_cases hz : (((List.range 28).filter fun i => !decide (enM bs ss 1 (12 + i) = enM bs ss 1 (12 + i - 1) * a + enM bs ss 1 (12 + i - 2) * ((b : Int) - 1) + enM bs ss 1 (12 + i - 3) * ((c : Int) - 1))).map fun i => ((12 + i : Nat) : Int)) = []
            · rw [if_pos (decide_eq_true hz)]
              rw [List.map_eq_nil_iff, List.filter_eq_nil_iff] at hz
              have hnr : ∀ k : Nat, 12 ≤ k → k < 40 → enM bs ss 1 k = enM bs ss 1 (k - 1) * a + enM bs ss 1 (k - 2) * ((b : Int) - 1) + enM bs ss 1 (k - 3) * ((c : Int) - 1) := fun k h1 h2 => by
                have := hz (k - 12) (List.mem_range.mpr (by omega))
                rw [show 12 + (k - 12) = k by omega] at this
                apply Classical.byContradiction
                intro hne
                rw [decide_eq_false hne] at this
                exact this rfl
              have hfar := en_far hnr
              have hB := elR2 (σ := [some (V.ref sc), some (V.ref row), some (V.ref r), some (V.int (h8 : Int)), some (V.int (wd : Int)), some (V.int (enM bs ss hn wd)), some (V.int M.PI), y7, y8, y9, some (V.ref N), some (V.int (fn : Int)), some (V.int (S0 : Int)), some (V.int 17), some (V.ref W), some (V.ref G), some (V.int (a : Int)), some (V.int (b : Int)), some (V.int (c : Int)), none, none, none, none]) (H := H23) (j := 21) (vs := [21]) (ta := tCons (tC (V.int 3)) (tCons (tVar 13) tNil)) (te := tVar 21)
                (t := (tTest (tOp rNe (tOp (rIxL K) (tVar 14) (tVar 21)) (tOp (rI (fun x j => 0 < j) fun i j => V.int (i % j)) (tCB (fun xs H Q => (∃ i, xs = [V.int i] ∧ Q (V.int i) H) ∨ ∃ k, xs = [V.bl k] ∧ Q (V.int (if k = true then 1 else 0)) H) (tCons (tOp (rI0 fun i j => V.int (i + j)) (tOp (rI0 fun i j => V.int (i + j)) (tOp (rI CMulW fun i j => V.int (i * j)) (tOp (rIxL K) (tVar 14) (tOp (rI0 fun i j => V.int (i - j)) (tVar 21) (tC (V.int 1)))) (tVar 16)) (tOp (rI CMulW fun i j => V.int (i * j)) (tOp (rIxL K) (tVar 14) (tOp (rI0 fun i j => V.int (i - j)) (tVar 21) (tC (V.int 2)))) (tOp (rI0 fun i j => V.int (i - j)) (tVar 17) (tC (V.int 1))))) (tOp (rI CMulW fun i j => V.int (i * j)) (tOp (rIxL K) (tVar 14) (tOp (rI0 fun i j => V.int (i - j)) (tVar 21) (tC (V.int 3)))) (tOp (rI0 fun i j => V.int (i - j)) (tVar 18) (tC (V.int 1))))) tNil)) (tVar 6))))) 3 14 (fun _ => false) (fun i => V.int (i : Int)) (by walk_at "ev") (by decide) (fun _ => rfl) (fun i H24 e24 hi => ?_) (fun i H24 e24 hi hf => by cases hf)
              rotate_left
              · intro H25 e25 Q25 q25
                show tTest _ [some (V.ref sc), some (V.ref row), some (V.ref r), some (V.int (h8 : Int)), some (V.int (wd : Int)), some (V.int (enM bs ss hn wd)), some (V.int M.PI), y7, y8, y9, some (V.ref N), some (V.int (fn : Int)), some (V.int (S0 : Int)), some (V.int 17), some (V.ref W), some (V.ref G), some (V.int (a : Int)), some (V.int (b : Int)), some (V.int (c : Int)), none, none, some (V.int (3 + (i : Int))), none] H25 Q25
                walk_at "sx"
                have hW25 := (e23.trans (e24.trans e25)) _ _ hW18
                have rdW : ∀ (m : Nat) (z : Int) (Qz : VK), m < 17 → z = (m : Int) → Qz (.int (enM bs ss 1 (S0 + m) % M.PI)) H25 → rIxL K (.ref W) (.int z) H25 Qz := fun m z Qz hm hz hq => by
                  subst hz
                  refine ixI (SqL.of hW25) (Int.natCast_nonneg _) (by rw [hl17]; omega) ?_
                  rw [Int.toNat_natCast, getD_range (fun i => enM bs ss 1 (S0 + i) % M.PI) (show m < (17 : Int).toNat from hm)]
                  exact hq
                have hsm : ∀ x : Int, -5 ≤ x ∧ x ≤ 5 → x.natAbs < 2 ^ 1000 := fun x hx => small (by omega)
                have hpb : ∀ x : Int, (x % M.PI).natAbs < 2 ^ 62 := fun x => by
                  have h1 := Int.emod_nonneg x (show M.PI ≠ 0 by decide)
                  have h2 := Int.emod_lt_of_pos x (show 0 < M.PI by decide)
                  have h3 : M.PI = 2305843009213693951 := rfl
                  omega
                refine rdW (3 + i) _ _ (by omega) (by omega) (rdW (3 + i - 1) _ _ (by omega) (by omega) ⟨_, rfl, mulW (small (hpb _)) (hsm _ (by omega)), rdW (3 + i - 2) _ _ (by omega) (by omega) ⟨_, rfl, mulW (small (hpb _)) (hsm _ (by omega)), rdW (3 + i - 3) _ _ (by omega) (by omega) ?_⟩⟩)
                refine ⟨_, rfl, mulW (small (hpb _)) (hsm _ (by omega)), .inl ⟨by decide, rfl, ?_⟩⟩
                have hk := hfar (S0 + (3 + i)) (by omega)
                rw [show S0 + (3 + i) - 1 = S0 + (3 + i - 1) by omega, show S0 + (3 + i) - 2 = S0 + (3 + i - 2) by omega, show S0 + (3 + i) - 3 = S0 + (3 + i - 3) by omega] at hk
                rw [← hk, show ∀ x : V, (!decide (x = x)) = false from fun x => by simp]
                exact q25 H25 (Evl.Ex.refl _)
              refine hB H23 (Evl.Ex.refl _) _ fun Z H24 hZ0 e24 hZ => ?_
              rw [given_none] at hZ
              refine ⟨by decide, fun p3 hp3 => ?_⟩
              have x3 := Evl.Ex.new (o := .lst []) hp3
              exact eqD_ints (ns := []) (ms := []) (SqL.of (x3 _ _ hZ)) (SqL.of upd_same) (q _)
            · rw [if_neg (by rw [decide_eq_true_eq]; exact hz)]
              exact ⟨⟨_, rfl⟩, e23⟩
          · rintro _ H21 ⟨y18, rfl, e21⟩
            exact ⟨_, _, rfl, e21⟩
        · rintro _ H20 ⟨y17, y18, rfl, e20⟩
          exact ⟨_, _, _, rfl, e20⟩
      · rintro _ H19 ⟨y16, y17, y18, rfl, e19⟩
        exact q _

end
end FB

/-! # WI -/
namespace FB
open PySem PySem.Spec PyProof.Rows L2
local macro_rules | `(tactic| walk_at "sx") => `(tactic| simp only [ap_Var, ap_C, ap_Op, ap_Un, ap_I, ap_I0, ap_U, ap_Eq, ap_Ne, ap_If, ap_Test, ap_B, ap_And, ap_Or, ap_Not, ap_AndV, ap_OrV, ap_NotV, ap_Chain, ap_CB, ap_Nil, ap_Cons, ap_Call, ap_Asg, ap_gName, ap_Seq, ap_Next, ap_Cont, ap_Ret, ap_IfS, ap_Par, ap_Par3, ap_Aug, ap_ip, ap_Drop, ap_gTup, ap_gCons, ap_gNil, ap_gSub, ap_Lst, ap_Tup, ap_Yes,
  List.getElem?_cons_zero, List.getElem?_cons_succ, List.set_cons_zero, List.set_cons_succ, Option.some.injEq, V.int.injEq, V.bl.injEq, V.ref.injEq, List.cons.injEq, and_true, true_and, exists_eq_left, exists_eq_left', exists_eq_right, exists_eq_right', exists_and_left, exists_and_right, List.append_nil, if_true, if_false, Bool.false_eq_true, Bool.not_true, Bool.not_false])
local macro_rules | `(tactic| walk_at "ev") => `(tactic| (intro H1 e1 Q1 q1; walk_at "sx"; exact q1 _ (Evl.Ex.refl _)))
section
variable {P : Program} {w : World} {K : PySem.W.Frag} {mg : Str → Option Value} {base : Heap}
/-! ### the end -/
/-- the walk's end with the loose constants at hand -/
theorem walk_ofX {l : PySem.W.OpenLaw} {n k : Nat} {q : Program} {loose : List Str} {lv : List (Str × PySem.W.WData)} {YP : World → Heap → Prop} {d : DefRec} {K : Params → PySem.W.Frag} {CX : World → CXT} {sp : World → Sp} {x : Str}
    (hn : l.most = some n) (hn2 : n ≤ sizeLine) (hdf : d.params.defaults = []) (hr : Room k callerA)
    (hY : ∀ (w : World) (h : Heap), YP w h → (K w.params).In h)
    (F : ∀ (w : World) (mg : Str → Option Value) (fa : Addr) (h : Heap), (K w.params).In h → h.Ns mainGlobals mg → PySem.W.LooseAre lv mg h → mg d.name = some (.ref fa) →
      ∃ fd : FuncData, (∀ (s : Shared) (u : Value), BindsTo s fd ⟨[u], []⟩ [(x, u)]) ∧
        ∀ base : Heap, (K w.params).In base → base.Ns mainGlobals mg → FnOk l.prog w (K w.params) mg base (CX w) k fa fd [x] (sp w))
    (hsp : ∀ (w : World) (H : Hp) (a : Addr) (ns : List Int), ns.length ≤ n → Only H → SqL (K w.params) H a (ns.map V.int) → sp w [.ref a] H (fun v _ => v = .bl true) fun _ _ _ => False)
    (hCX : ∀ (w : World) (H : Hp) (s : Shared) (e : Value) (s' : Shared), CX w [] H s (fun _ _ _ => False) e s' → False) :
    PySem.W.WalkO q loose (PySem.W.XL q lv) YP l.row.toRowW d [] (fun f vs => PySem.call f vs) := by
  refine Att.attach_call hn hdf fun w s₀ s₁ mg mb fa o pm cd doc a vs ns G Y ho hd hcd hmg hobj hints hlen hg => ?_
  have KX := hY w _ Y
  obtain ⟨fd, hb, hF⟩ := F w mg fa _ KX G.T.g G.X.2 hmg
  exact law_call KX G.T.g G.T.b G.T.builtins G.T.nolimit hg hobj hints (Nat.le_trans hlen hn2) hr hF hb (fun H hO hS => hsp w H a ns hlen hO hS) fun H e s' => hCX w H s₁ e s'
theorem df_mk {K : PySem.W.Frag} {h : Heap} {mg : Str → Option Value} (nm : Str) (st : Stmt) (ps : List Str) (X : K.In h) (G : h.Ns mainGlobals mg) {f : Addr} {oc kV doc pm cdv ct : Value} {od an : Option Addr} {osl : Array (Option Value)}
    (a : PySem.W.nsIn K mainGlobals nm = some (some (.ref f))) (l : K.lookup f = some ⟨oc, od, .func (PySem.W.fnOf nm nm (defArgs st) (defBody st) (defScope st) .none kV doc pm an cdv ct), osl⟩) (c : PySem.W.codeIn K cdv nm = true) (k : PySem.W.keepIn K (.ref f) = true)
    (hb : ∀ us : List Value, us.length = ps.length → bindArgs (PySem.W.fnOf nm nm (defArgs st) (defBody st) (defScope st) .none kV doc pm an cdv ct) ⟨us, []⟩ = pure (ps.zip us)) :
    ∃ (f : Addr) (d : FuncData), Fun K nm nm st f d ∧ mg nm = some (.ref f) ∧ Binds K d ps [] ∧ ∀ (s : Shared) (us : List Value), us.length = ps.length → BindsTo s d ⟨us, []⟩ (ps.zip us) :=
  ⟨f, _, fun_mk l c k, PySem.W.mg_of X G a, .all hb, fun _ us hl => .of_eq (hb us hl)⟩
theorem loose_int {lv : List (Str × PySem.W.WData)} {mg : Str → Option Value} {h : Heap} (L : PySem.W.LooseAre lv mg h) {x : Str} {i : Int} (hx : (x, PySem.W.WData.int i) ∈ lv) : ∃ t, mg x = some (.int i t) := by
  obtain ⟨v, h1, h2⟩ := L.val _ hx
  cases h2 with
  | int i t => exact ⟨t, h1⟩
theorem all_mk {P : Program} {w : World} {K : PySem.W.Frag} {h : Heap} {mg : Str → Option Value} {fa : Addr} {lv : List (Str × PySem.W.WData)} (X : K.In h) (G : h.Ns mainGlobals mg) (L : PySem.W.LooseAre lv mg h) (hfa : mg "law" = some (.ref fa))
    {f0 : Addr} {oc0 kV0 dc0 pm0 cd0 ct0 : Value} {od0 an0 : Option Addr} {sl0 : Array (Option Value)}
    (a0 : PySem.W.nsIn K mainGlobals "is_in" = some (some (.ref f0))) (l0 : K.lookup f0 = some ⟨oc0, od0, .func (PySem.W.fnOf "is_in" "is_in" (defArgs s_is_in) (defBody s_is_in) (defScope s_is_in) .none kV0 dc0 pm0 an0 cd0 ct0), sl0⟩) (c0 : PySem.W.codeIn K cd0 "is_in" = true) (k0 : PySem.W.keepIn K (.ref f0) = true)
    {f1 : Addr} {oc1 kV1 dc1 pm1 cd1 ct1 : Value} {od1 an1 : Option Addr} {sl1 : Array (Option Value)}
    (a1 : PySem.W.nsIn K mainGlobals "are_counts" = some (some (.ref f1))) (l1 : K.lookup f1 = some ⟨oc1, od1, .func (PySem.W.fnOf "are_counts" "are_counts" (defArgs s_are_counts) (defBody s_are_counts) (defScope s_are_counts) .none kV1 dc1 pm1 an1 cd1 ct1), sl1⟩) (c1 : PySem.W.codeIn K cd1 "are_counts" = true) (k1 : PySem.W.keepIn K (.ref f1) = true)
    {f2 : Addr} {oc2 kV2 dc2 pm2 cd2 ct2 : Value} {od2 an2 : Option Addr} {sl2 : Array (Option Value)}
    (a2 : PySem.W.nsIn K mainGlobals "is_rule" = some (some (.ref f2))) (l2 : K.lookup f2 = some ⟨oc2, od2, .func (PySem.W.fnOf "is_rule" "is_rule" (defArgs s_is_rule) (defBody s_is_rule) (defScope s_is_rule) .none kV2 dc2 pm2 an2 cd2 ct2), sl2⟩) (c2 : PySem.W.codeIn K cd2 "is_rule" = true) (k2 : PySem.W.keepIn K (.ref f2) = true)
    {f3 : Addr} {oc3 kV3 dc3 pm3 cd3 ct3 : Value} {od3 an3 : Option Addr} {sl3 : Array (Option Value)}
    (a3 : PySem.W.nsIn K mainGlobals "need_rule" = some (some (.ref f3))) (l3 : K.lookup f3 = some ⟨oc3, od3, .func (PySem.W.fnOf "need_rule" "need_rule" (defArgs s_need_rule) (defBody s_need_rule) (defScope s_need_rule) .none kV3 dc3 pm3 an3 cd3 ct3), sl3⟩) (c3 : PySem.W.codeIn K cd3 "need_rule" = true) (k3 : PySem.W.keepIn K (.ref f3) = true)
    {f4 : Addr} {oc4 kV4 dc4 pm4 cd4 ct4 : Value} {od4 an4 : Option Addr} {sl4 : Array (Option Value)}
    (a4 : PySem.W.nsIn K mainGlobals "rests" = some (some (.ref f4))) (l4 : K.lookup f4 = some ⟨oc4, od4, .func (PySem.W.fnOf "rests" "rests" (defArgs s_rests) (defBody s_rests) (defScope s_rests) .none kV4 dc4 pm4 an4 cd4 ct4), sl4⟩) (c4 : PySem.W.codeIn K cd4 "rests" = true) (k4 : PySem.W.keepIn K (.ref f4) = true)
    {f5 : Addr} {oc5 kV5 dc5 pm5 cd5 ct5 : Value} {od5 an5 : Option Addr} {sl5 : Array (Option Value)}
    (a5 : PySem.W.nsIn K mainGlobals "ways_on" = some (some (.ref f5))) (l5 : K.lookup f5 = some ⟨oc5, od5, .func (PySem.W.fnOf "ways_on" "ways_on" (defArgs s_ways_on) (defBody s_ways_on) (defScope s_ways_on) .none kV5 dc5 pm5 an5 cd5 ct5), sl5⟩) (c5 : PySem.W.codeIn K cd5 "ways_on" = true) (k5 : PySem.W.keepIn K (.ref f5) = true)
    {f6 : Addr} {oc6 kV6 dc6 pm6 cd6 ct6 : Value} {od6 an6 : Option Addr} {sl6 : Array (Option Value)}
    (a6 : PySem.W.nsIn K mainGlobals "counts_on" = some (some (.ref f6))) (l6 : K.lookup f6 = some ⟨oc6, od6, .func (PySem.W.fnOf "counts_on" "counts_on" (defArgs s_counts_on) (defBody s_counts_on) (defScope s_counts_on) .none kV6 dc6 pm6 an6 cd6 ct6), sl6⟩) (c6 : PySem.W.codeIn K cd6 "counts_on" = true) (k6 : PySem.W.keepIn K (.ref f6) = true)
    {f7 : Addr} {oc7 kV7 dc7 pm7 cd7 ct7 : Value} {od7 an7 : Option Addr} {sl7 : Array (Option Value)}
    (a7 : PySem.W.nsIn K mainGlobals "ends_of" = some (some (.ref f7))) (l7 : K.lookup f7 = some ⟨oc7, od7, .func (PySem.W.fnOf "ends_of" "ends_of" (defArgs s_ends_of) (defBody s_ends_of) (defScope s_ends_of) .none kV7 dc7 pm7 an7 cd7 ct7), sl7⟩) (c7 : PySem.W.codeIn K cd7 "ends_of" = true) (k7 : PySem.W.keepIn K (.ref f7) = true)
    {f8 : Addr} {oc8 kV8 dc8 pm8 cd8 ct8 : Value} {od8 an8 : Option Addr} {sl8 : Array (Option Value)}
    (a8 : PySem.W.nsIn K mainGlobals "numbers_to" = some (some (.ref f8))) (l8 : K.lookup f8 = some ⟨oc8, od8, .func (PySem.W.fnOf "numbers_to" "numbers_to" (defArgs s_numbers_to) (defBody s_numbers_to) (defScope s_numbers_to) .none kV8 dc8 pm8 an8 cd8 ct8), sl8⟩) (c8 : PySem.W.codeIn K cd8 "numbers_to" = true) (k8 : PySem.W.keepIn K (.ref f8) = true)
    {f9 : Addr} {oc9 kV9 dc9 pm9 cd9 ct9 : Value} {od9 an9 : Option Addr} {sl9 : Array (Option Value)}
    (a9 : PySem.W.nsIn K mainGlobals "need_strip" = some (some (.ref f9))) (l9 : K.lookup f9 = some ⟨oc9, od9, .func (PySem.W.fnOf "need_strip" "need_strip" (defArgs s_need_strip) (defBody s_need_strip) (defScope s_need_strip) .none kV9 dc9 pm9 an9 cd9 ct9), sl9⟩) (c9 : PySem.W.codeIn K cd9 "need_strip" = true) (k9 : PySem.W.keepIn K (.ref f9) = true)
    {f10 : Addr} {oc10 kV10 dc10 pm10 cd10 ct10 : Value} {od10 an10 : Option Addr} {sl10 : Array (Option Value)}
    (a10 : PySem.W.nsIn K mainGlobals "stills_in_strip" = some (some (.ref f10))) (l10 : K.lookup f10 = some ⟨oc10, od10, .func (PySem.W.fnOf "stills_in_strip" "stills_in_strip" (defArgs s_stills_in_strip) (defBody s_stills_in_strip) (defScope s_stills_in_strip) .none kV10 dc10 pm10 an10 cd10 ct10), sl10⟩) (c10 : PySem.W.codeIn K cd10 "stills_in_strip" = true) (k10 : PySem.W.keepIn K (.ref f10) = true)
    {f11 : Addr} {oc11 kV11 dc11 pm11 cd11 ct11 : Value} {od11 an11 : Option Addr} {sl11 : Array (Option Value)}
    (a11 : PySem.W.nsIn K mainGlobals "stills_far" = some (some (.ref f11))) (l11 : K.lookup f11 = some ⟨oc11, od11, .func (PySem.W.fnOf "stills_far" "stills_far" (defArgs s_stills_far) (defBody s_stills_far) (defScope s_stills_far) .none kV11 dc11 pm11 an11 cd11 ct11), sl11⟩) (c11 : PySem.W.codeIn K cd11 "stills_far" = true) (k11 : PySem.W.keepIn K (.ref f11) = true)
    {f12 : Addr} {oc12 kV12 dc12 pm12 cd12 ct12 : Value} {od12 an12 : Option Addr} {sl12 : Array (Option Value)}
    (a12 : PySem.W.nsIn K mainGlobals "inverse" = some (some (.ref f12))) (l12 : K.lookup f12 = some ⟨oc12, od12, .func (PySem.W.fnOf "inverse" "inverse" (defArgs s_inverse) (defBody s_inverse) (defScope s_inverse) .none kV12 dc12 pm12 an12 cd12 ct12), sl12⟩) (c12 : PySem.W.codeIn K cd12 "inverse" = true) (k12 : PySem.W.keepIn K (.ref f12) = true)
    {f13 : Addr} {oc13 kV13 dc13 pm13 cd13 ct13 : Value} {od13 an13 : Option Addr} {sl13 : Array (Option Value)}
    (a13 : PySem.W.nsIn K mainGlobals "shortest_rule" = some (some (.ref f13))) (l13 : K.lookup f13 = some ⟨oc13, od13, .func (PySem.W.fnOf "shortest_rule" "shortest_rule" (defArgs s_shortest_rule) (defBody s_shortest_rule) (defScope s_shortest_rule) .none kV13 dc13 pm13 an13 cd13 ct13), sl13⟩) (c13 : PySem.W.codeIn K cd13 "shortest_rule" = true) (k13 : PySem.W.keepIn K (.ref f13) = true)
    {f14 : Addr} {oc14 kV14 dc14 pm14 cd14 ct14 : Value} {od14 an14 : Option Addr} {sl14 : Array (Option Value)}
    (a14 : PySem.W.nsIn K mainGlobals "far_number" = some (some (.ref f14))) (l14 : K.lookup f14 = some ⟨oc14, od14, .func (PySem.W.fnOf "far_number" "far_number" (defArgs s_far_number) (defBody s_far_number) (defScope s_far_number) .none kV14 dc14 pm14 an14 cd14 ct14), sl14⟩) (c14 : PySem.W.codeIn K cd14 "far_number" = true) (k14 : PySem.W.keepIn K (.ref f14) = true)
    {f15 : Addr} {oc15 kV15 dc15 pm15 cd15 ct15 : Value} {od15 an15 : Option Addr} {sl15 : Array (Option Value)}
    (a15 : PySem.W.nsIn K mainGlobals "times_step" = some (some (.ref f15))) (l15 : K.lookup f15 = some ⟨oc15, od15, .func (PySem.W.fnOf "times_step" "times_step" (defArgs s_times_step) (defBody s_times_step) (defScope s_times_step) .none kV15 dc15 pm15 an15 cd15 ct15), sl15⟩) (c15 : PySem.W.codeIn K cd15 "times_step" = true) (k15 : PySem.W.keepIn K (.ref f15) = true)
    {f16 : Addr} {oc16 kV16 dc16 pm16 cd16 ct16 : Value} {od16 an16 : Option Addr} {sl16 : Array (Option Value)}
    (a16 : PySem.W.nsIn K mainGlobals "times" = some (some (.ref f16))) (l16 : K.lookup f16 = some ⟨oc16, od16, .func (PySem.W.fnOf "times" "times" (defArgs s_times) (defBody s_times) (defScope s_times) .none kV16 dc16 pm16 an16 cd16 ct16), sl16⟩) (c16 : PySem.W.codeIn K cd16 "times" = true) (k16 : PySem.W.keepIn K (.ref f16) = true)
    {f17 : Addr} {oc17 kV17 dc17 pm17 cd17 ct17 : Value} {od17 an17 : Option Addr} {sl17 : Array (Option Value)}
    (a17 : PySem.W.nsIn K mainGlobals "_law_taken" = some (some (.ref f17))) (l17 : K.lookup f17 = some ⟨oc17, od17, .func (PySem.W.fnOf "_law_taken" "_law_taken" (defArgs s__law_taken) (defBody s__law_taken) (defScope s__law_taken) .none kV17 dc17 pm17 an17 cd17 ct17), sl17⟩) (c17 : PySem.W.codeIn K cd17 "_law_taken" = true) (k17 : PySem.W.keepIn K (.ref f17) = true)
    {f18 : Addr} {oc18 kV18 dc18 pm18 cd18 ct18 : Value} {od18 an18 : Option Addr} {sl18 : Array (Option Value)}
    (a18 : PySem.W.nsIn K mainGlobals "_law_pick" = some (some (.ref f18))) (l18 : K.lookup f18 = some ⟨oc18, od18, .func (PySem.W.fnOf "_law_pick" "_law_pick" (defArgs s__law_pick) (defBody s__law_pick) (defScope s__law_pick) .none kV18 dc18 pm18 an18 cd18 ct18), sl18⟩) (c18 : PySem.W.codeIn K cd18 "_law_pick" = true) (k18 : PySem.W.keepIn K (.ref f18) = true)
    {f19 : Addr} {oc19 kV19 dc19 pm19 cd19 ct19 : Value} {od19 an19 : Option Addr} {sl19 : Array (Option Value)}
    (a19 : PySem.W.nsIn K mainGlobals "_law_some_rule" = some (some (.ref f19))) (l19 : K.lookup f19 = some ⟨oc19, od19, .func (PySem.W.fnOf "_law_some_rule" "_law_some_rule" (defArgs s__law_some_rule) (defBody s__law_some_rule) (defScope s__law_some_rule) .none kV19 dc19 pm19 an19 cd19 ct19), sl19⟩) (c19 : PySem.W.codeIn K cd19 "_law_some_rule" = true) (k19 : PySem.W.keepIn K (.ref f19) = true)
    {f20 : Addr} {oc20 kV20 dc20 pm20 cd20 ct20 : Value} {od20 an20 : Option Addr} {sl20 : Array (Option Value)}
    (a20 : PySem.W.nsIn K mainGlobals "_law_around" = some (some (.ref f20))) (l20 : K.lookup f20 = some ⟨oc20, od20, .func (PySem.W.fnOf "_law_around" "_law_around" (defArgs s__law_around) (defBody s__law_around) (defScope s__law_around) .none kV20 dc20 pm20 an20 cd20 ct20), sl20⟩) (c20 : PySem.W.codeIn K cd20 "_law_around" = true) (k20 : PySem.W.keepIn K (.ref f20) = true)
    {f21 : Addr} {oc21 kV21 dc21 pm21 cd21 ct21 : Value} {od21 an21 : Option Addr} {sl21 : Array (Option Value)}
    (a21 : PySem.W.nsIn K mainGlobals "_law_step" = some (some (.ref f21))) (l21 : K.lookup f21 = some ⟨oc21, od21, .func (PySem.W.fnOf "_law_step" "_law_step" (defArgs s__law_step) (defBody s__law_step) (defScope s__law_step) .none kV21 dc21 pm21 an21 cd21 ct21), sl21⟩) (c21 : PySem.W.codeIn K cd21 "_law_step" = true) (k21 : PySem.W.keepIn K (.ref f21) = true)
    {f22 : Addr} {oc22 kV22 dc22 pm22 cd22 ct22 : Value} {od22 an22 : Option Addr} {sl22 : Array (Option Value)}
    (a22 : PySem.W.nsIn K mainGlobals "_law_alike" = some (some (.ref f22))) (l22 : K.lookup f22 = some ⟨oc22, od22, .func (PySem.W.fnOf "_law_alike" "_law_alike" (defArgs s__law_alike) (defBody s__law_alike) (defScope s__law_alike) .none kV22 dc22 pm22 an22 cd22 ct22), sl22⟩) (c22 : PySem.W.codeIn K cd22 "_law_alike" = true) (k22 : PySem.W.keepIn K (.ref f22) = true)
    {f23 : Addr} {oc23 kV23 dc23 pm23 cd23 ct23 : Value} {od23 an23 : Option Addr} {sl23 : Array (Option Value)}
    (a23 : PySem.W.nsIn K mainGlobals "law" = some (some (.ref f23))) (l23 : K.lookup f23 = some ⟨oc23, od23, .func (PySem.W.fnOf "law" "law" (defArgs s_law) (defBody s_law) (defScope s_law) .none kV23 dc23 pm23 an23 cd23 ct23), sl23⟩) (c23 : PySem.W.codeIn K cd23 "law" = true) (k23 : PySem.W.keepIn K (.ref f23) = true)
    (z_isinstance : PySem.W.nsIn K mainGlobals "isinstance" = some none)
    (z_int : PySem.W.nsIn K mainGlobals "int" = some none)
    (z_bool : PySem.W.nsIn K mainGlobals "bool" = some none)
    (z_tuple : PySem.W.nsIn K mainGlobals "tuple" = some none)
    (z_list : PySem.W.nsIn K mainGlobals "list" = some none)
    (z_sorted : PySem.W.nsIn K mainGlobals "sorted" = some none)
    (z_set : PySem.W.nsIn K mainGlobals "set" = some none)
    (z_len : PySem.W.nsIn K mainGlobals "len" = some none)
    (z_range : PySem.W.nsIn K mainGlobals "range" = some none)
    (z_enumerate : PySem.W.nsIn K mainGlobals "enumerate" = some none)
    (z_sum : PySem.W.nsIn K mainGlobals "sum" = some none)
    (z_max : PySem.W.nsIn K mainGlobals "max" = some none)
    (z_zip : PySem.W.nsIn K mainGlobals "zip" = some none)
    (z_dict : PySem.W.nsIn K mainGlobals "dict" = some none)
    (z_str : PySem.W.nsIn K mainGlobals "str" = some none)
    {t_MOST_STATES : Tok} (m_MOST_STATES : PySem.W.nsIn K mainGlobals "MOST_STATES" = some (some (.int 6 t_MOST_STATES)))
    {t_MOST_HIGH : Tok} (m_MOST_HIGH : PySem.W.nsIn K mainGlobals "MOST_HIGH" = some (some (.int 3 t_MOST_HIGH)))
    {t_MOST_WIDE : Tok} (m_MOST_WIDE : PySem.W.nsIn K mainGlobals "MOST_WIDE" = some (some (.int 200 t_MOST_WIDE)))
    (y_FARTHEST : ((("FARTHEST" : Str), PySem.W.WData.int 1000000000000000000000000000000000000000000000000000000000000) : Str × PySem.W.WData) ∈ lv) (y_PRIME : ((("PRIME" : Str), PySem.W.WData.int 2305843009213693951) : Str × PySem.W.WData) ∈ lv) :
    ∃ fd : FuncData, (∀ (s : Shared) (u : Value), BindsTo s fd ⟨[u], []⟩ [("_law_script", u)]) ∧ ∀ base : Heap, K.In base → base.Ns mainGlobals mg → FnOk P w K mg base CX0 7 fa fd ["_law_script"] (sp_law K) := by
  obtain ⟨f_is_in, d_is_in, F_is_in, g_is_in, b_is_in, B_is_in⟩ := df_mk "is_in" s_is_in ["value", "least", "most"] X G a0 l0 c0 k0 (fun us hl => match us, hl with | [_, _, _], _ => rfl)
  obtain ⟨f_are_counts, d_are_counts, F_are_counts, g_are_counts, b_are_counts, B_are_counts⟩ := df_mk "are_counts" s_are_counts ["value", "least"] X G a1 l1 c1 k1 (fun us hl => match us, hl with | [_, _], _ => rfl)
  obtain ⟨f_is_rule, d_is_rule, F_is_rule, g_is_rule, b_is_rule, B_is_rule⟩ := df_mk "is_rule" s_is_rule ["rule"] X G a2 l2 c2 k2 (fun us hl => match us, hl with | [_], _ => rfl)
  obtain ⟨f_need_rule, d_need_rule, F_need_rule, g_need_rule, b_need_rule, B_need_rule⟩ := df_mk "need_rule" s_need_rule ["rule"] X G a3 l3 c3 k3 (fun us hl => match us, hl with | [_], _ => rfl)
  obtain ⟨f_rests, d_rests, F_rests, g_rests, b_rests, B_rests⟩ := df_mk "rests" s_rests ["rule", "columns", "high"] X G a4 l4 c4 k4 (fun us hl => match us, hl with | [_, _, _], _ => rfl)
  obtain ⟨f_ways_on, d_ways_on, F_ways_on, g_ways_on, b_ways_on, B_ways_on⟩ := df_mk "ways_on" s_ways_on ["rule", "high"] X G a5 l5 c5 k5 (fun us hl => match us, hl with | [_, _], _ => rfl)
  obtain ⟨f_counts_on, d_counts_on, F_counts_on, g_counts_on, b_counts_on, B_counts_on⟩ := df_mk "counts_on" s_counts_on ["ways", "counts", "modulus"] X G a6 l6 c6 k6 (fun us hl => match us, hl with | [_, _, _], _ => rfl)
  obtain ⟨f_ends_of, d_ends_of, F_ends_of, g_ends_of, b_ends_of, B_ends_of⟩ := df_mk "ends_of" s_ends_of ["ways", "counts"] X G a7 l7 c7 k7 (fun us hl => match us, hl with | [_, _], _ => rfl)
  obtain ⟨f_numbers_to, d_numbers_to, F_numbers_to, g_numbers_to, b_numbers_to, B_numbers_to⟩ := df_mk "numbers_to" s_numbers_to ["rule", "high", "last", "modulus"] X G a8 l8 c8 k8 (fun us hl => match us, hl with | [_, _, _, _], _ => rfl)
  obtain ⟨f_need_strip, d_need_strip, F_need_strip, g_need_strip, b_need_strip, B_need_strip⟩ := df_mk "need_strip" s_need_strip ["rule", "high", "wide", "most"] X G a9 l9 c9 k9 (fun us hl => match us, hl with | [_, _, _, _], _ => rfl)
  obtain ⟨f_stills_in_strip, d_stills_in_strip, F_stills_in_strip, g_stills_in_strip, b_stills_in_strip, B_stills_in_strip⟩ := df_mk "stills_in_strip" s_stills_in_strip ["rule", "high", "wide"] X G a10 l10 c10 k10 (fun us hl => match us, hl with | [_, _, _], _ => rfl)
  obtain ⟨f_stills_far, d_stills_far, F_stills_far, g_stills_far, b_stills_far, B_stills_far⟩ := df_mk "stills_far" s_stills_far ["rule", "high", "wide"] X G a11 l11 c11 k11 (fun us hl => match us, hl with | [_, _, _], _ => rfl)
  obtain ⟨f_inverse, d_inverse, F_inverse, g_inverse, b_inverse, B_inverse⟩ := df_mk "inverse" s_inverse ["number"] X G a12 l12 c12 k12 (fun us hl => match us, hl with | [_], _ => rfl)
  obtain ⟨f_shortest_rule, d_shortest_rule, F_shortest_rule, g_shortest_rule, b_shortest_rule, B_shortest_rule⟩ := df_mk "shortest_rule" s_shortest_rule ["numbers"] X G a13 l13 c13 k13 (fun us hl => match us, hl with | [_], _ => rfl)
  obtain ⟨f_far_number, d_far_number, F_far_number, g_far_number, b_far_number, B_far_number⟩ := df_mk "far_number" s_far_number ["numbers", "rule", "place"] X G a14 l14 c14 k14 (fun us hl => match us, hl with | [_, _, _], _ => rfl)
  obtain ⟨f_times_step, d_times_step, F_times_step, g_times_step, b_times_step, B_times_step⟩ := df_mk "times_step" s_times_step ["row", "rule"] X G a15 l15 c15 k15 (fun us hl => match us, hl with | [_, _], _ => rfl)
  obtain ⟨f_times, d_times, F_times, g_times, b_times, B_times⟩ := df_mk "times" s_times ["one", "two", "rule"] X G a16 l16 c16 k16 (fun us hl => match us, hl with | [_, _, _], _ => rfl)
  obtain ⟨f__law_taken, d__law_taken, F__law_taken, g__law_taken, b__law_taken, B__law_taken⟩ := df_mk "_law_taken" s__law_taken ["_law_row", "_law_many"] X G a17 l17 c17 k17 (fun us hl => match us, hl with | [_, _], _ => rfl)
  obtain ⟨f__law_pick, d__law_pick, F__law_pick, g__law_pick, b__law_pick, B__law_pick⟩ := df_mk "_law_pick" s__law_pick ["_law_row", "_law_things"] X G a18 l18 c18 k18 (fun us hl => match us, hl with | [_, _], _ => rfl)
  obtain ⟨f__law_some_rule, d__law_some_rule, F__law_some_rule, g__law_some_rule, b__law_some_rule, B__law_some_rule⟩ := df_mk "_law_some_rule" s__law_some_rule ["_law_row"] X G a19 l19 c19 k19 (fun us hl => match us, hl with | [_], _ => rfl)
  obtain ⟨f__law_around, d__law_around, F__law_around, g__law_around, b__law_around, B__law_around⟩ := df_mk "_law_around" s__law_around ["_law_place"] X G a20 l20 c20 k20 (fun us hl => match us, hl with | [_], _ => rfl)
  obtain ⟨f__law_step, d__law_step, F__law_step, g__law_step, b__law_step, B__law_step⟩ := df_mk "_law_step" s__law_step ["_law_rule", "_law_board"] X G a21 l21 c21 k21 (fun us hl => match us, hl with | [_, _], _ => rfl)
  obtain ⟨f__law_alike, d__law_alike, F__law_alike, g__law_alike, b__law_alike, B__law_alike⟩ := df_mk "_law_alike" s__law_alike ["_law_found", "_law_due"] X G a22 l22 c22 k22 (fun us hl => match us, hl with | [_, _], _ => rfl)
  obtain ⟨f_law, d_law, F_law, g_law, b_law, B_law⟩ := df_mk "law" s_law ["_law_script"] X G a23 l23 c23 k23 (fun us hl => match us, hl with | [_], _ => rfl)
  obtain ⟨t_FARTHEST, c_FARTHEST⟩ := loose_int L y_FARTHEST
  obtain ⟨t_PRIME, c_PRIME⟩ := loose_int L y_PRIME
  have e := hfa.symm.trans g_law
  cases e
  let T : Txt K mg := { f_is_in := f_is_in, d_is_in := d_is_in, F_is_in := F_is_in, g_is_in := g_is_in, b_is_in := b_is_in, f_are_counts := f_are_counts, d_are_counts := d_are_counts, F_are_counts := F_are_counts, g_are_counts := g_are_counts, b_are_counts := b_are_counts, f_is_rule := f_is_rule, d_is_rule := d_is_rule, F_is_rule := F_is_rule, g_is_rule := g_is_rule, b_is_rule := b_is_rule, f_need_rule := f_need_rule, d_need_rule := d_need_rule, F_need_rule := F_need_rule, g_need_rule := g_need_rule, b_need_rule := b_need_rule, f_rests := f_rests, d_rests := d_rests, F_rests := F_rests, g_rests := g_rests, b_rests := b_rests, f_ways_on := f_ways_on, d_ways_on := d_ways_on, F_ways_on := F_ways_on, g_ways_on := g_ways_on, b_ways_on := b_ways_on, f_counts_on := f_counts_on, d_counts_on := d_counts_on, F_counts_on := F_counts_on, g_counts_on := g_counts_on, b_counts_on := b_counts_on, f_ends_of := f_ends_of, d_ends_of := d_ends_of, F_ends_of := F_ends_of, g_ends_of := g_ends_of, b_ends_of := b_ends_of, f_numbers_to := f_numbers_to, d_numbers_to := d_numbers_to, F_numbers_to := F_numbers_to, g_numbers_to := g_numbers_to, b_numbers_to := b_numbers_to, f_need_strip := f_need_strip, d_need_strip := d_need_strip, F_need_strip := F_need_strip, g_need_strip := g_need_strip, b_need_strip := b_need_strip, f_stills_in_strip := f_stills_in_strip, d_stills_in_strip := d_stills_in_strip, F_stills_in_strip := F_stills_in_strip, g_stills_in_strip := g_stills_in_strip, b_stills_in_strip := b_stills_in_strip, f_stills_far := f_stills_far, d_stills_far := d_stills_far, F_stills_far := F_stills_far, g_stills_far := g_stills_far, b_stills_far := b_stills_far, f_inverse := f_inverse, d_inverse := d_inverse, F_inverse := F_inverse, g_inverse := g_inverse, b_inverse := b_inverse, f_shortest_rule := f_shortest_rule, d_shortest_rule := d_shortest_rule, F_shortest_rule := F_shortest_rule, g_shortest_rule := g_shortest_rule, b_shortest_rule := b_shortest_rule, f_far_number := f_far_number, d_far_number := d_far_number, F_far_number := F_far_number, g_far_number := g_far_number, b_far_number := b_far_number, f_times_step := f_times_step, d_times_step := d_times_step, F_times_step := F_times_step, g_times_step := g_times_step, b_times_step := b_times_step, f_times := f_times, d_times := d_times, F_times := F_times, g_times := g_times, b_times := b_times, f__law_taken := f__law_taken, d__law_taken := d__law_taken, F__law_taken := F__law_taken, g__law_taken := g__law_taken, b__law_taken := b__law_taken, f__law_pick := f__law_pick, d__law_pick := d__law_pick, F__law_pick := F__law_pick, g__law_pick := g__law_pick, b__law_pick := b__law_pick, f__law_some_rule := f__law_some_rule, d__law_some_rule := d__law_some_rule, F__law_some_rule := F__law_some_rule, g__law_some_rule := g__law_some_rule, b__law_some_rule := b__law_some_rule, f__law_around := f__law_around, d__law_around := d__law_around, F__law_around := F__law_around, g__law_around := g__law_around, b__law_around := b__law_around, f__law_step := f__law_step, d__law_step := d__law_step, F__law_step := F__law_step, g__law_step := g__law_step, b__law_step := b__law_step, f__law_alike := f__law_alike, d__law_alike := d__law_alike, F__law_alike := F__law_alike, g__law_alike := g__law_alike, b__law_alike := b__law_alike, f_law := fa, d_law := d_law, F_law := F_law, g_law := g_law, b_law := b_law, z_isinstance := PySem.W.mg_none_of X G z_isinstance, z_int := PySem.W.mg_none_of X G z_int, z_bool := PySem.W.mg_none_of X G z_bool, z_tuple := PySem.W.mg_none_of X G z_tuple, z_list := PySem.W.mg_none_of X G z_list, z_sorted := PySem.W.mg_none_of X G z_sorted, z_set := PySem.W.mg_none_of X G z_set, z_len := PySem.W.mg_none_of X G z_len, z_range := PySem.W.mg_none_of X G z_range, z_enumerate := PySem.W.mg_none_of X G z_enumerate, z_sum := PySem.W.mg_none_of X G z_sum, z_max := PySem.W.mg_none_of X G z_max, z_zip := PySem.W.mg_none_of X G z_zip, z_dict := PySem.W.mg_none_of X G z_dict, z_str := PySem.W.mg_none_of X G z_str, t_MOST_STATES := t_MOST_STATES, c_MOST_STATES := PySem.W.mg_of X G m_MOST_STATES, t_MOST_HIGH := t_MOST_HIGH, c_MOST_HIGH := PySem.W.mg_of X G m_MOST_HIGH, t_MOST_WIDE := t_MOST_WIDE, c_MOST_WIDE := PySem.W.mg_of X G m_MOST_WIDE, t_FARTHEST := t_FARTHEST, c_FARTHEST := c_FARTHEST, t_PRIME := t_PRIME, c_PRIME := c_PRIME }
  exact ⟨d_law, fun s u => B_law s [u] rfl, fun base _ _ => ok_law T⟩

end
end FB

open PySem PySem.W PyProof.Rows
set_option maxHeartbeats 0 in
theorem PySem.Challenge.cw_fateboards_k27_whole_strips_holds : PySem.Challenge.rw_fateboards_k27_whole_strips.Holds := by
  w_on; o_law; k_head; (case hw => w_witness2)
  k_fill
  refine FB.walk_ofX (l := PySem.Challenge.rw_fateboards_k27_whole_strips) (n := 63) (k := 7) (x := "_law_script") (CX := fun _ => L2.CX0) (sp := fun w => FB.sp_law _) rfl (by decide) rfl ⟨rfl, by decide, by decide⟩ (fun w h Y => PySem.W.kIn_of Y) ?F (fun _ _ a ns hl _ hS => ⟨a, ns, rfl, hS, fun _ => rfl⟩) (fun _ _ _ _ _ h => h)
  case F =>
    intro w mg fa h KX G L hmg
    refine' FB.all_mk KX G L hmg ?a0 ?l0 ?c0 ?k0 ?a1 ?l1 ?c1 ?k1 ?a2 ?l2 ?c2 ?k2 ?a3 ?l3 ?c3 ?k3 ?a4 ?l4 ?c4 ?k4 ?a5 ?l5 ?c5 ?k5 ?a6 ?l6 ?c6 ?k6 ?a7 ?l7 ?c7 ?k7 ?a8 ?l8 ?c8 ?k8 ?a9 ?l9 ?c9 ?k9 ?a10 ?l10 ?c10 ?k10 ?a11 ?l11 ?c11 ?k11 ?a12 ?l12 ?c12 ?k12 ?a13 ?l13 ?c13 ?k13 ?a14 ?l14 ?c14 ?k14 ?a15 ?l15 ?c15 ?k15 ?a16 ?l16 ?c16 ?k16 ?a17 ?l17 ?c17 ?k17 ?a18 ?l18 ?c18 ?k18 ?a19 ?l19 ?c19 ?k19 ?a20 ?l20 ?c20 ?k20 ?a21 ?l21 ?c21 ?k21 ?a22 ?l22 ?c22 ?k22 ?a23 ?l23 ?c23 ?k23 ?z_isinstance ?z_int ?z_bool ?z_tuple ?z_list ?z_sorted ?z_set ?z_len ?z_range ?z_enumerate ?z_sum ?z_max ?z_zip ?z_dict ?z_str ?m_MOST_STATES ?m_MOST_HIGH ?m_MOST_WIDE ?y_FARTHEST ?y_PRIME
    (case a0 => k_is); (case l0 => k_is); (case c0 => k_is); (case k0 => k_is); (case a1 => k_is); (case l1 => k_is); (case c1 => k_is); (case k1 => k_is); (case a2 => k_is); (case l2 => k_is); (case c2 => k_is); (case k2 => k_is); (case a3 => k_is); (case l3 => k_is); (case c3 => k_is); (case k3 => k_is); (case a4 => k_is); (case l4 => k_is); (case c4 => k_is); (case k4 => k_is); (case a5 => k_is); (case l5 => k_is); (case c5 => k_is); (case k5 => k_is); (case a6 => k_is); (case l6 => k_is); (case c6 => k_is); (case k6 => k_is); (case a7 => k_is); (case l7 => k_is); (case c7 => k_is); (case k7 => k_is); (case a8 => k_is); (case l8 => k_is); (case c8 => k_is); (case k8 => k_is); (case a9 => k_is); (case l9 => k_is); (case c9 => k_is); (case k9 => k_is); (case a10 => k_is); (case l10 => k_is); (case c10 => k_is); (case k10 => k_is); (case a11 => k_is); (case l11 => k_is); (case c11 => k_is); (case k11 => k_is); (case a12 => k_is); (case l12 => k_is); (case c12 => k_is); (case k12 => k_is); (case a13 => k_is); (case l13 => k_is); (case c13 => k_is); (case k13 => k_is); (case a14 => k_is); (case l14 => k_is); (case c14 => k_is); (case k14 => k_is); (case a15 => k_is); (case l15 => k_is); (case c15 => k_is); (case k15 => k_is); (case a16 => k_is); (case l16 => k_is); (case c16 => k_is); (case k16 => k_is); (case a17 => k_is); (case l17 => k_is); (case c17 => k_is); (case k17 => k_is); (case a18 => k_is); (case l18 => k_is); (case c18 => k_is); (case k18 => k_is); (case a19 => k_is); (case l19 => k_is); (case c19 => k_is); (case k19 => k_is); (case a20 => k_is); (case l20 => k_is); (case c20 => k_is); (case k20 => k_is); (case a21 => k_is); (case l21 => k_is); (case c21 => k_is); (case k21 => k_is); (case a22 => k_is); (case l22 => k_is); (case c22 => k_is); (case k22 => k_is); (case a23 => k_is); (case l23 => k_is); (case c23 => k_is); (case k23 => k_is); (case z_isinstance => k_is); (case z_int => k_is); (case z_bool => k_is); (case z_tuple => k_is); (case z_list => k_is); (case z_sorted => k_is); (case z_set => k_is); (case z_len => k_is); (case z_range => k_is); (case z_enumerate => k_is); (case z_sum => k_is); (case z_max => k_is); (case z_zip => k_is); (case z_dict => k_is); (case z_str => k_is); (case m_MOST_STATES => k_is); (case m_MOST_HIGH => k_is); (case m_MOST_WIDE => k_is)
    (case y_FARTHEST => simp); (case y_PRIME => simp)
