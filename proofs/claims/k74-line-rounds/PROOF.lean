import PyProof.Rows.All
import Wide.All
import OpenK.AllK
import Wide.FinOn
import HandS.ForMost
import HandS.ForExc
import HandS.TupAny
import KE.KDictKeyed
import KE.KDictWalk
import KE.GoesEnum
import HandS.Comp
import HandS.DictComp
import HandS.SetBool
import HandS.TupSets
import HandS.Style
import HandS.Conv
import PySem.Challenge.RW_framesays_k74_line_rounds
import KE.KExcSuper
import HandS.ExcInit
import HandS.FStr
import HandS.FStrTup
import HandS.WordsExc
import HandS.IsInst
import HandS.Text
import HandS.RaiseMore
import HandS.NoneIn
import PyProof.ReprRoads
import HandS.Deep
import KE.KEqNest
import KE.KExcIs
import HandS.HotCalls
import HandS.ExcField
import HandS.ExcIs
import HandS.Small
import HandS.TupLe
import KE.RegKSuper
set_option Elab.async false
set_option linter.all false
set_option maxRecDepth 100000
set_option maxHeartbeats 4000000
set_option autoImplicit false
/-! Lines of blocks, their cuts, and being alike for r rounds: plain Lean, no program in sight. -/
namespace M74
inductive Blk where
  | n (k : Nat)
  | up
  | dn
  deriving DecidableEq, Repr
abbrev Ln := List Blk
def fin (k : Nat) : Ln := if k = 0 then [] else [.n k]
theorem fin_zero : fin 0 = [] := rfl
theorem fin_pos {k : Nat} (h : 0 < k) : fin k = [.n k] := by
  unfold fin; rw [if_neg (by omega)]
def okJ : Blk → Nat → Prop
  | .n k, j => j < k
  | .up, _ => True
  | .dn, _ => True
/-- what a block leaves on the left of its place j, on the right of it -/
def bl : Blk → Nat → Ln
  | .n _, j => fin j
  | .up, j => fin j
  | .dn, _ => [.dn]
def br : Blk → Nat → Ln
  | .n k, j => fin (k - 1 - j)
  | .up, _ => [.up]
  | .dn, j => fin j
/-- some place of a has the left line l and the right line r -/
def Cut (a l r : Ln) : Prop := ∃ (x : Ln) (b : Blk) (y : Ln) (j : Nat), a = x ++ b :: y ∧ okJ b j ∧ l = x ++ bl b j ∧ r = br b j ++ y
def E : Nat → Ln → Ln → Prop
  | 0, _, _ => True
  | r + 1, a, b => (∀ l s, Cut a l s → ∃ l2 s2, Cut b l2 s2 ∧ E r l l2 ∧ E r s s2) ∧ (∀ l2 s2, Cut b l2 s2 → ∃ l s, Cut a l s ∧ E r l l2 ∧ E r s s2)
theorem E.refl : ∀ (r : Nat) (a : Ln), E r a a
  | 0, _ => trivial
  | r + 1, _ => ⟨fun l s h => ⟨l, s, h, E.refl r l, E.refl r s⟩, fun l s h => ⟨l, s, h, E.refl r l, E.refl r s⟩⟩
theorem E.symm : ∀ {r : Nat} {a b : Ln}, E r a b → E r b a
  | 0, _, _, _ => trivial
  | _ + 1, _, _, h => ⟨fun l s c => let ⟨l2, s2, c2, e1, e2⟩ := h.2 l s c; ⟨l2, s2, c2, e1.symm, e2.symm⟩,
      fun l s c => let ⟨l2, s2, c2, e1, e2⟩ := h.1 l s c; ⟨l2, s2, c2, e1.symm, e2.symm⟩⟩
theorem E.trans : ∀ {r : Nat} {a b c : Ln}, E r a b → E r b c → E r a c
  | 0, _, _, _, _, _ => trivial
  | _ + 1, _, _, _, h, g =>
    ⟨fun l s k => let ⟨l2, s2, k2, e1, e2⟩ := h.1 l s k; let ⟨l3, s3, k3, f1, f2⟩ := g.1 l2 s2 k2; ⟨l3, s3, k3, e1.trans f1, e2.trans f2⟩,
     fun l s k => let ⟨l2, s2, k2, e1, e2⟩ := g.2 l s k; let ⟨l3, s3, k3, f1, f2⟩ := h.2 l2 s2 k2; ⟨l3, s3, k3, f1.trans e1, f2.trans e2⟩⟩
theorem E.less : ∀ {r : Nat} {a b : Ln}, E (r + 1) a b → E r a b
  | 0, _, _, _ => trivial
  | _ + 1, _, _, h => ⟨fun l s c => let ⟨l2, s2, c2, e1, e2⟩ := h.1 l s c; ⟨l2, s2, c2, e1.less, e2.less⟩,
      fun l s c => let ⟨l2, s2, c2, e1, e2⟩ := h.2 l s c; ⟨l2, s2, c2, e1.less, e2.less⟩⟩
theorem E.of_eq {r : Nat} {a b : Ln} (h : a = b) : E r a b := h ▸ E.refl r a
theorem cut_append {a b l s : Ln} : Cut (a ++ b) l s ↔ (∃ s1, Cut a l s1 ∧ s = s1 ++ b) ∨ (∃ l1, Cut b l1 s ∧ l = a ++ l1) := by
  constructor
  · rintro ⟨x, c, y, j, e, ok, rfl, rfl⟩
    rcases List.append_eq_append_iff.mp e with ⟨z, rfl, e2⟩ | ⟨z, rfl, e2⟩
    · -- x = a ++ z
      exact .inr ⟨z ++ bl c j, ⟨z, c, y, j, e2, ok, rfl, rfl⟩, by rw [List.append_assoc]⟩
    · cases z with
      | nil =>
        rw [List.nil_append] at e2
        refine .inr ⟨bl c j, ⟨[], c, y, j, ?_, ok, rfl, rfl⟩, ?_⟩
        · rw [List.nil_append]; exact e2.symm
        · rw [List.append_nil]
      | cons d z =>
        rw [List.cons_append] at e2
        injection e2 with e3 e4
        subst e3
        exact .inl ⟨br c j ++ z, ⟨x, c, z, j, rfl, ok, rfl, rfl⟩, by rw [e4, List.append_assoc]⟩
  · rintro (⟨s1, ⟨x, c, y, j, rfl, ok, rfl, rfl⟩, rfl⟩ | ⟨l1, ⟨x, c, y, j, rfl, ok, rfl, rfl⟩, rfl⟩)
    · exact ⟨x, c, y ++ b, j, by simp, ok, rfl, by simp⟩
    · exact ⟨a ++ x, c, y, j, by simp, ok, by simp, rfl⟩
theorem E.append : ∀ {r : Nat} {a a' b b' : Ln}, E r a a' → E r b b' → E r (a ++ b) (a' ++ b')
  | 0, _, _, _, _, _, _ => trivial
  | r + 1, a, a', b, b', ha, hb => by
    refine ⟨fun l s c => ?_, fun l s c => ?_⟩
    · rcases cut_append.mp c with ⟨s1, c1, rfl⟩ | ⟨l1, c1, rfl⟩
      · obtain ⟨l2, s2, c2, e1, e2⟩ := ha.1 l s1 c1
        exact ⟨l2, s2 ++ b', cut_append.mpr (.inl ⟨s2, c2, rfl⟩), e1, E.append e2 hb.less⟩
      · obtain ⟨l2, s2, c2, e1, e2⟩ := hb.1 l1 s c1
        exact ⟨a' ++ l2, s2, cut_append.mpr (.inr ⟨l2, c2, rfl⟩), E.append ha.less e1, e2⟩
    · rcases cut_append.mp c with ⟨s1, c1, rfl⟩ | ⟨l1, c1, rfl⟩
      · obtain ⟨l2, s2, c2, e1, e2⟩ := ha.2 l s1 c1
        exact ⟨l2, s2 ++ b, cut_append.mpr (.inl ⟨s2, c2, rfl⟩), e1, E.append e2 hb.less⟩
      · obtain ⟨l2, s2, c2, e1, e2⟩ := hb.2 l1 s c1
        exact ⟨a ++ l2, s2, cut_append.mpr (.inr ⟨l2, c2, rfl⟩), E.append ha.less e1, e2⟩
theorem cut_one {b : Blk} {l s : Ln} : Cut [b] l s ↔ ∃ j, okJ b j ∧ l = bl b j ∧ s = br b j := by
  constructor
  · rintro ⟨x, c, y, j, e, ok, rfl, rfl⟩
    cases x with
    | nil =>
      rw [List.nil_append] at e
      injection e with e1 e2
      subst e1; subst e2
      exact ⟨j, ok, rfl, by rw [List.append_nil]⟩
    | cons d x =>
      rw [List.cons_append] at e
      injection e with _ e2
      exact absurd e2 (by simp)
  · rintro ⟨j, ok, rfl, rfl⟩
    exact ⟨[], b, [], j, rfl, ok, rfl, by rw [List.append_nil]⟩
theorem cut_nil {l s : Ln} : ¬ Cut [] l s := by
  rintro ⟨x, b, y, j, e, _⟩
  exact absurd e (by simp)
theorem cut_fin {k : Nat} {l s : Ln} : Cut (fin k) l s ↔ ∃ j, j < k ∧ l = fin j ∧ s = fin (k - 1 - j) := by
  by_cases h : k = 0
  · subst h
    exact ⟨fun c => absurd c cut_nil, fun ⟨j, hj, _⟩ => absurd hj (by omega)⟩
  · rw [fin_pos (by omega), cut_one]
    exact Iff.rfl
theorem cut_up {l s : Ln} : Cut [.up] l s ↔ ∃ j, l = fin j ∧ s = [.up] := by
  rw [cut_one]
  exact ⟨fun ⟨j, _, a, b⟩ => ⟨j, a, b⟩, fun ⟨j, a, b⟩ => ⟨j, trivial, a, b⟩⟩
theorem cut_dn {l s : Ln} : Cut [.dn] l s ↔ ∃ j, l = [.dn] ∧ s = fin j := by
  rw [cut_one]
  exact ⟨fun ⟨j, _, a, b⟩ => ⟨j, a, b⟩, fun ⟨j, a, b⟩ => ⟨j, trivial, a, b⟩⟩
/-- two finite lines side by side are one -/
theorem E_add : ∀ (r a b : Nat), E r (fin a ++ fin b) (fin (a + b))
  | 0, _, _ => trivial
  | r + 1, a, b => by
    refine ⟨fun l s c => ?_, fun l s c => ?_⟩
    · rcases cut_append.mp c with ⟨s1, c1, rfl⟩ | ⟨l1, c1, rfl⟩
      · obtain ⟨j, hj, rfl, rfl⟩ := cut_fin.mp c1
        refine ⟨fin j, fin (a + b - 1 - j), cut_fin.mpr ⟨j, by omega, rfl, rfl⟩, E.refl _ _, ?_⟩
        have e : a + b - 1 - j = (a - 1 - j) + b := by omega
        rw [e]; exact E_add r _ _
      · obtain ⟨j, hj, rfl, rfl⟩ := cut_fin.mp c1
        refine ⟨fin (a + j), fin (b - 1 - j), cut_fin.mpr ⟨a + j, by omega, rfl, by congr 1; omega⟩, E_add r _ _, E.refl _ _⟩
    · obtain ⟨j, hj, rfl, rfl⟩ := cut_fin.mp c
      by_cases h : j < a
      · refine ⟨fin j, fin (a - 1 - j) ++ fin b, cut_append.mpr (.inl ⟨_, cut_fin.mpr ⟨j, h, rfl, rfl⟩, rfl⟩), E.refl _ _, ?_⟩
        have e : a + b - 1 - j = (a - 1 - j) + b := by omega
        rw [e]; exact E_add r _ _
      · refine ⟨fin a ++ fin (j - a), fin (b - 1 - (j - a)), cut_append.mpr (.inr ⟨_, cut_fin.mpr ⟨j - a, by omega, rfl, rfl⟩, rfl⟩), ?_, ?_⟩
        · have e := E_add r a (j - a)
          rw [show a + (j - a) = j by omega] at e
          exact e
        · exact E.of_eq (by congr 1; omega)
theorem E_up : ∀ (r a : Nat), E r (fin a ++ [.up]) [.up]
  | 0, _ => trivial
  | r + 1, a => by
    refine ⟨fun l s c => ?_, fun l s c => ?_⟩
    · rcases cut_append.mp c with ⟨s1, c1, rfl⟩ | ⟨l1, c1, rfl⟩
      · obtain ⟨j, hj, rfl, rfl⟩ := cut_fin.mp c1
        exact ⟨fin j, [.up], cut_up.mpr ⟨j, rfl, rfl⟩, E.refl _ _, E_up r _⟩
      · obtain ⟨j, rfl, rfl⟩ := cut_up.mp c1
        exact ⟨fin (a + j), [.up], cut_up.mpr ⟨a + j, rfl, rfl⟩, E_add r _ _, E.refl _ _⟩
    · obtain ⟨j, rfl, rfl⟩ := cut_up.mp c
      by_cases h : j < a
      · exact ⟨fin j, fin (a - 1 - j) ++ [.up], cut_append.mpr (.inl ⟨_, cut_fin.mpr ⟨j, h, rfl, rfl⟩, rfl⟩), E.refl _ _, E_up r _⟩
      · refine ⟨fin a ++ fin (j - a), [.up], cut_append.mpr (.inr ⟨_, cut_up.mpr ⟨j - a, rfl, rfl⟩, rfl⟩), ?_, E.refl _ _⟩
        have e := E_add r a (j - a)
        rw [show a + (j - a) = j by omega] at e
        exact e
theorem E_dn : ∀ (r a : Nat), E r ([.dn] ++ fin a) [.dn]
  | 0, _ => trivial
  | r + 1, a => by
    refine ⟨fun l s c => ?_, fun l s c => ?_⟩
    · rcases cut_append.mp c with ⟨s1, c1, rfl⟩ | ⟨l1, c1, rfl⟩
      · obtain ⟨j, rfl, rfl⟩ := cut_dn.mp c1
        exact ⟨[.dn], fin (j + a), cut_dn.mpr ⟨j + a, rfl, rfl⟩, E.refl _ _, E_add r _ _⟩
      · obtain ⟨j, hj, rfl, rfl⟩ := cut_fin.mp c1
        exact ⟨[.dn], fin (a - 1 - j), cut_dn.mpr ⟨_, rfl, rfl⟩, E_dn r _, E.refl _ _⟩
    · obtain ⟨j, rfl, rfl⟩ := cut_dn.mp c
      by_cases h : j < a
      · refine ⟨[.dn] ++ fin (a - 1 - j), fin j, cut_append.mpr (.inr ⟨_, cut_fin.mpr ⟨a - 1 - j, by omega, rfl, by congr 1; omega⟩, rfl⟩), E_dn r _, E.refl _ _⟩
      · refine ⟨[.dn], fin (j - a) ++ fin a, cut_append.mpr (.inl ⟨_, cut_dn.mpr ⟨j - a, rfl, rfl⟩, rfl⟩), E.refl _ _, ?_⟩
        have e := E_add r (j - a) a
        rw [show j - a + a = j by omega] at e
        exact e
theorem pow_succ (r : Nat) : 2 ^ (r + 1) = 2 * 2 ^ r := by rw [Nat.pow_succ]; omega
theorem pow_pos (r : Nat) : 0 < 2 ^ r := Nat.pos_of_ne_zero (by simp)
/-- finite lines that are long enough -/
theorem E_big : ∀ (r a b : Nat), 2 ^ r - 1 ≤ a → 2 ^ r - 1 ≤ b → E r (fin a) (fin b) := by
  have half : ∀ (r : Nat), (∀ a b, 2 ^ r - 1 ≤ a → 2 ^ r - 1 ≤ b → E r (fin a) (fin b)) → ∀ a b j, 2 ^ (r + 1) - 1 ≤ a → 2 ^ (r + 1) - 1 ≤ b → j < a →
      ∃ i, i < b ∧ E r (fin j) (fin i) ∧ E r (fin (a - 1 - j)) (fin (b - 1 - i)) := by
    intro r ih a b j ha hb hj
    rw [pow_succ] at ha hb
    have hp := pow_pos r
    by_cases h1 : j < 2 ^ r - 1
    · exact ⟨j, by omega, E.refl _ _, ih _ _ (by omega) (by omega)⟩
    · by_cases h2 : a - 1 - j < 2 ^ r - 1
      · refine ⟨b - 1 - (a - 1 - j), by omega, ih _ _ (by omega) (by omega), E.of_eq (by congr 1; omega)⟩
      · exact ⟨2 ^ r - 1, by omega, ih _ _ (by omega) (by omega), ih _ _ (by omega) (by omega)⟩
  intro r
  induction r with
  | zero => intro _ _ _ _; trivial
  | succ r ih =>
    intro a b ha hb
    refine ⟨fun l s c => ?_, fun l s c => ?_⟩
    · obtain ⟨j, hj, rfl, rfl⟩ := cut_fin.mp c
      obtain ⟨i, hi, e1, e2⟩ := half r ih a b j ha hb hj
      exact ⟨_, _, cut_fin.mpr ⟨i, hi, rfl, rfl⟩, e1, e2⟩
    · obtain ⟨j, hj, rfl, rfl⟩ := cut_fin.mp c
      obtain ⟨i, hi, e1, e2⟩ := half r ih b a j hb ha hj
      exact ⟨_, _, cut_fin.mpr ⟨i, hi, rfl, rfl⟩, e1.symm, e2.symm⟩
/-- .. and no others -/
theorem E_fin_only : ∀ (r a b : Nat), E r (fin a) (fin b) → a = b ∨ (2 ^ r - 1 ≤ a ∧ 2 ^ r - 1 ≤ b) := by
  have main : ∀ (r : Nat), (∀ a b, E r (fin a) (fin b) → a = b ∨ (2 ^ r - 1 ≤ a ∧ 2 ^ r - 1 ≤ b)) → ∀ a b, a < b → E (r + 1) (fin a) (fin b) → 2 ^ (r + 1) - 1 ≤ a := by
    intro r ih a b hab h
    rw [pow_succ]
    have hp := pow_pos r
    refine Classical.byContradiction fun hn => ?_
    obtain ⟨l, s, c, e1, e2⟩ := h.2 (fin (a / 2)) (fin (b - 1 - a / 2)) (cut_fin.mpr ⟨a / 2, by omega, rfl, rfl⟩)
    obtain ⟨i, hi, rfl, rfl⟩ := cut_fin.mp c
    rcases ih _ _ e1 with q1 | q1
    · rcases ih _ _ e2 with q2 | q2 <;> omega
    · rcases ih _ _ e2 with q2 | q2 <;> omega
  intro r
  induction r with
  | zero => intro a b _; exact .inr ⟨by simp, by simp⟩
  | succ r ih =>
    intro a b h
    by_cases e : a = b
    · exact .inl e
    · rcases Nat.lt_or_gt_of_ne e with q | q
      · have := main r ih a b q h; exact .inr ⟨this, by omega⟩
      · have := main r ih b a q h.symm; exact .inr ⟨by omega, this⟩
/-- a finite line that is long enough, and up down -/
theorem E_updn : ∀ (r a : Nat), 2 ^ r - 1 ≤ a → E r (fin a) [.up, .dn]
  | 0, _, _ => trivial
  | r + 1, a, ha => by
    have hp := pow_pos r
    rw [pow_succ] at ha
    have ih := E_updn r
    have cu : ∀ {l s : Ln}, Cut [.up, .dn] l s ↔ (∃ j, l = fin j ∧ s = [.up, .dn]) ∨ ∃ j, l = [.up, .dn] ∧ s = fin j := by
      intro l s
      rw [show ([.up, .dn] : Ln) = [.up] ++ [.dn] from rfl, cut_append]
      constructor
      · rintro (⟨s1, c, rfl⟩ | ⟨l1, c, rfl⟩)
        · obtain ⟨j, rfl, rfl⟩ := cut_up.mp c; exact .inl ⟨j, rfl, rfl⟩
        · obtain ⟨j, rfl, rfl⟩ := cut_dn.mp c; exact .inr ⟨j, rfl, rfl⟩
      · rintro (⟨j, rfl, rfl⟩ | ⟨j, rfl, rfl⟩)
        · exact .inl ⟨[.up], cut_up.mpr ⟨j, rfl, rfl⟩, rfl⟩
        · exact .inr ⟨[.dn], cut_dn.mpr ⟨j, rfl, rfl⟩, rfl⟩
    refine ⟨fun l s c => ?_, fun l s c => ?_⟩
    · obtain ⟨j, hj, rfl, rfl⟩ := cut_fin.mp c
      by_cases h1 : 2 ^ r - 1 ≤ a - 1 - j
      · exact ⟨fin j, [.up, .dn], cu.mpr (.inl ⟨j, rfl, rfl⟩), E.refl _ _, ih _ h1⟩
      · exact ⟨[.up, .dn], fin (a - 1 - j), cu.mpr (.inr ⟨_, rfl, rfl⟩), ih _ (by omega), E.refl _ _⟩
    · rcases cu.mp c with ⟨j, rfl, rfl⟩ | ⟨j, rfl, rfl⟩
      · by_cases h1 : j < 2 ^ r - 1
        · exact ⟨fin j, fin (a - 1 - j), cut_fin.mpr ⟨j, by omega, rfl, rfl⟩, E.refl _ _, ih _ (by omega)⟩
        · exact ⟨fin (2 ^ r - 1), fin (a - 1 - (2 ^ r - 1)), cut_fin.mpr ⟨_, by omega, rfl, rfl⟩, E_big r _ _ (by omega) (by omega), ih _ (by omega)⟩
      · by_cases h1 : j < 2 ^ r - 1
        · exact ⟨fin (a - 1 - j), fin j, cut_fin.mpr ⟨a - 1 - j, by omega, rfl, by congr 1; omega⟩, ih _ (by omega), E.refl _ _⟩
        · exact ⟨fin (2 ^ r - 1), fin (a - 1 - (2 ^ r - 1)), cut_fin.mpr ⟨_, by omega, rfl, rfl⟩, ih _ (by omega), E_big r _ _ (by omega) (by omega)⟩
/-! ### the program's form -/
def pstep (acc : Ln) (b : Blk) : Ln := match b, acc.getLast? with
  | .dn, _ => acc ++ [.dn]
  | .up, some (.n _) => acc.dropLast ++ [.up]
  | .up, _ => acc ++ [.up]
  | .n k, some (.n m) => acc.dropLast ++ [.n (m + k)]
  | .n _, some .dn => acc
  | .n k, _ => acc ++ [.n k]
def mrg (a : Ln) : Ln := a.foldl pstep []
def isE : Blk → Bool
  | .n _ => false
  | _ => true
def cutB (most : Nat) : Blk → Blk
  | .n k => .n (min k most)
  | b => b
def form (most : Nat) (a : Ln) : Ln := if most = 0 then (mrg a).filter isE else (mrg a).map (cutB most)
/-- all numbers are 1 or more -/
def Pos (a : Ln) : Prop := ∀ k, Blk.n k ∈ a → 0 < k
theorem Pos.cons {b : Blk} {a : Ln} (h : Pos (b :: a)) : Pos a := fun k m => h k (List.mem_cons_of_mem _ m)
theorem Pos.nil : Pos [] := fun _ m => absurd m (by simp)
theorem Pos.app {a b : Ln} (h : Pos a) (g : Pos b) : Pos (a ++ b) := fun k m => (List.mem_append.mp m).elim (h k) (g k)
theorem Pos.left {a b : Ln} (h : Pos (a ++ b)) : Pos a := fun k m => h k (List.mem_append_left _ m)
theorem Pos.right {a b : Ln} (h : Pos (a ++ b)) : Pos b := fun k m => h k (List.mem_append_right _ m)
theorem Pos.fin (k : Nat) : Pos (fin k) := fun i m => by
  by_cases h : k = 0
  · subst h; exact absurd m (by simp [M74.fin])
  · rw [fin_pos (by omega)] at m
    simp at m; omega
theorem Pos.take {a : Ln} (h : Pos a) (i : Nat) : Pos (a.take i) := fun k m => h k (List.mem_of_mem_take m)
theorem Pos.drop {a : Ln} (h : Pos a) (i : Nat) : Pos (a.drop i) := fun k m => h k (List.mem_of_mem_drop m)
theorem E_n {r k m : Nat} (h : E r (M74.fin k) (M74.fin m)) (hk : 0 < k) (hm : 0 < m) : E r [.n k] [.n m] := by
  rw [fin_pos hk, fin_pos hm] at h; exact h
theorem last_split {a : Ln} {b : Blk} (h : a.getLast? = some b) : a = a.dropLast ++ [b] := by
  obtain ⟨x, rfl⟩ := List.getLast?_eq_some_iff.mp h
  simp
theorem E_pstep (r : Nat) {acc : Ln} {b : Blk} (hp : Pos (acc ++ [b])) : E r (acc ++ [b]) (pstep acc b) := by
  unfold pstep
  cases hl : acc.getLast? with
  | none =>
    have : acc = [] := List.getLast?_eq_none_iff.mp hl
    subst this
    cases b <;> exact E.refl _ _
  | some c =>
    have e := last_split hl
    cases b with
    | dn => exact E.refl _ _
    | up =>
      cases c with
      | n m =>
        show E r (acc ++ [.up]) (acc.dropLast ++ [.up])
        have hm : 0 < m := hp m (by rw [e]; simp)
        conv => lhs; rw [e, List.append_assoc]
        refine E.append (E.refl _ _) ?_
        have := E_up r m
        rw [fin_pos hm] at this
        exact this
      | up => exact E.refl _ _
      | dn => exact E.refl _ _
    | n k =>
      have hk : 0 < k := hp k (by simp)
      cases c with
      | n m =>
        show E r (acc ++ [.n k]) (acc.dropLast ++ [.n (m + k)])
        have hm : 0 < m := hp m (by rw [e]; simp)
        conv => lhs; rw [e, List.append_assoc]
        refine E.append (E.refl _ _) ?_
        have := E_add r m k
        rw [fin_pos hm, fin_pos hk, fin_pos (by omega)] at this
        exact this
      | up => exact E.refl _ _
      | dn =>
        show E r (acc ++ [.n k]) acc
        conv => lhs; rw [e, List.append_assoc]
        conv => rhs; rw [e]
        refine E.append (E.refl _ _) ?_
        have := E_dn r k
        rw [fin_pos hk] at this
        exact this
theorem pos_pstep {acc : Ln} {b : Blk} (hp : Pos (acc ++ [b])) : Pos (pstep acc b) := by
  have hd : Pos acc.dropLast := fun k m => hp k (List.mem_append_left _ ((List.dropLast_sublist acc).mem m))
  have one : ∀ c : Blk, (∀ k, c = .n k → 0 < k) → Pos [c] := fun c h k m => by
    simp at m; exact h k m.symm
  unfold pstep
  cases hl : acc.getLast? with
  | none => cases b <;> exact hp
  | some c =>
    have e := last_split hl
    cases b with
    | dn => exact hp
    | up =>
      cases c with
      | n m => exact hd.app (one _ fun k z => by cases z)
      | up => exact hp
      | dn => exact hp
    | n k =>
      cases c with
      | n m =>
        have hm : 0 < m := hp m (by rw [e]; simp)
        exact hd.app (one _ fun j z => by cases z; omega)
      | up => exact hp
      | dn => exact hp.left
theorem E_fold (r : Nat) : ∀ (a acc : Ln), Pos (acc ++ a) → E r (acc ++ a) (a.foldl pstep acc) ∧ Pos (a.foldl pstep acc)
  | [], acc, h => ⟨by rw [List.append_nil]; exact E.refl _ _, by rw [List.append_nil] at h; exact h⟩
  | b :: a, acc, h => by
    rw [List.foldl_cons]
    have h1 : Pos (acc ++ [b]) := fun k m => h k (by
      rcases List.mem_append.mp m with m | m
      · exact List.mem_append_left _ m
      · simp at m; subst m; simp)
    have h2 : Pos (pstep acc b ++ a) := (pos_pstep h1).app (fun k m => h k (by simp [m]))
    obtain ⟨e, p⟩ := E_fold r a (pstep acc b) h2
    refine ⟨E.trans ?_ e, p⟩
    rw [show acc ++ b :: a = (acc ++ [b]) ++ a by simp]
    exact E.append (E_pstep r h1) (E.refl _ _)
theorem E_mrg (r : Nat) {a : Ln} (h : Pos a) : E r a (mrg a) := (E_fold r a [] h).1
theorem pos_mrg {a : Ln} (h : Pos a) : Pos (mrg a) := (E_fold 0 a [] h).2
theorem E_cut (r : Nat) : ∀ {a : Ln}, Pos a → E (r + 1) a (a.map (cutB (2 ^ (r + 1) - 1)))
  | [], _ => E.refl _ _
  | b :: a, h => by
    have ih := E_cut r h.cons
    rw [List.map_cons]
    refine E.append (a := [b]) (a' := [cutB (2 ^ (r + 1) - 1) b]) ?_ ih
    cases b with
    | n k =>
      have hk : 0 < k := h k (by simp)
      have hp := pow_pos r
      have hq := pow_succ r
      refine E_n ?_ hk (by omega)
      by_cases q : k ≤ 2 ^ (r + 1) - 1
      · rw [Nat.min_eq_left q]; exact E.refl _ _
      · rw [Nat.min_eq_right (by omega)]; exact E_big _ _ _ (by omega) (by omega)
    | up => exact E.refl _ _
    | dn => exact E.refl _ _
/-- a line and its form are alike -/
theorem E_form : ∀ (r : Nat) {a : Ln}, Pos a → E r a (form (2 ^ r - 1) a)
  | 0, _, _ => trivial
  | r + 1, a, h => by
    have hp := pow_pos r
    have hq := pow_succ r
    unfold form
    rw [if_neg (by omega)]
    exact (E_mrg _ h).trans (E_cut r (pos_mrg h))
theorem pos_form (r : Nat) {a : Ln} (h : Pos a) : Pos (form (2 ^ r - 1) a) := by
  unfold form
  split
  · intro k m
    exact absurd (List.mem_filter.mp m).2 (by simp [isE])
  · rename_i hz
    intro k m
    obtain ⟨b, hb, e⟩ := List.mem_map.mp m
    cases b with
    | n j =>
      have := pos_mrg h j hb
      injection e with e
      omega
    | up => cases e
    | dn => cases e
end M74
/-! A layer of our own over HandS: values are told by predicates over a persistent part P of the heap; what a slot owns is told beside. -/
namespace Ly
open PySem L2
def isDct : HO → Prop
  | .dK _ => True
  | .dT _ => True
  | _ => False
/-- the persistent part P stands in H (a dict may be locked) -/
def Ld (P H : Hp) : Prop := ∀ b u, P b = some u → H b = some u ∨ (isDct u ∧ ∃ o, H b = some (.frz o u))
theorem Ld.rd {P H : Hp} (l : Ld P H) {b : Addr} {u : HO} (h : P b = some u) : Rd H b u := by
  rcases l b u h with q | ⟨_, o, q⟩
  · exact .inl q
  · exact .inr ⟨o, q⟩
theorem Ld.at {P H : Hp} (l : Ld P H) {b : Addr} {u : HO} (h : P b = some u) (n : ¬ isDct u) : H b = some u := by
  rcases l b u h with q | ⟨d, _⟩
  · exact q
  · exact absurd d n
theorem Ld.mono {P H H' : Hp} (l : Ld P H) (e : Same H H') : Ld P H' := fun b u h => by
  rcases l b u h with q | ⟨d, o, q⟩
  · exact .inl (e _ _ q)
  · exact .inr ⟨d, o, e _ _ q⟩
/-- what is true of a value, as long as the persistent part stands -/
structure Pr where
  p : Hp → V → Prop
  up : ∀ {P P' : Hp} {v : V}, Same P P' → p P v → p P' v
/-- what a slot owns: fp the addresses of its objects -/
structure Ow where
  ok : Hp → Hp → V → List Addr → Prop
  up : ∀ {P P' H H' : Hp} {v : V} {fp : List Addr}, Same P P' → (∀ a ∈ fp, H' a = H a) → ok P H v fp → ok P' H' v fp
inductive Sl where
  | un
  | pr (R : Pr)
  | ow (O : Ow)
/-- one slot -/
inductive Sl1 (P H : Hp) : List Addr → Option V → Sl → Prop where
  | un {v : Option V} : Sl1 P H [] v .un
  | pr {v : V} {R : Pr} : R.p P v → Sl1 P H [] (some v) (.pr R)
  | ow {fp : List Addr} {v : V} {O : Ow} : O.ok P H v fp → Sl1 P H fp (some v) (.ow O)
theorem Sl1.up {P P' H H' : Hp} {fp : List Addr} {v : Option V} {s : Sl} (h : Sl1 P H fp v s) (e : Same P P') (k : ∀ a ∈ fp, H' a = H a) : Sl1 P' H' fp v s := by
  cases h with
  | un => exact .un
  | pr r => exact .pr (Pr.up _ e r)
  | ow o => exact .ow (Ow.up _ e k o)
/-- all slots, their own objects apart -/
inductive SlAll (P H : Hp) : List Addr → St → List Sl → Prop where
  | nil : SlAll P H [] [] []
  | cons {ow fp : List Addr} {v : Option V} {s : Sl} {σ : St} {ss : List Sl} : Sl1 P H fp v s → (∀ a ∈ fp, a ∉ ow) → SlAll P H ow σ ss → SlAll P H (fp ++ ow) (v :: σ) (s :: ss)
theorem SlAll.len {P H : Hp} {ow : List Addr} {σ : St} {ss : List Sl} (h : SlAll P H ow σ ss) : σ.length = ss.length := by
  induction h with
  | nil => rfl
  | cons _ _ _ ih => simp [ih]
/-- the slots stand while P grows and what is owned stays -/
theorem SlAll.grow {P H P' H' : Hp} {ow : List Addr} {σ : St} {ss : List Sl} (h : SlAll P H ow σ ss) (e : Same P P') : (∀ a ∈ ow, H' a = H a) → SlAll P' H' ow σ ss := by
  induction h with
  | nil => exact fun _ => .nil
  | cons a d _ ih => exact fun k => .cons (a.up e fun b hb => k b (List.mem_append_left _ hb)) d (ih fun b hb => k b (List.mem_append_right _ hb))
/-- the slot at i, and how another is put in its place -/
theorem SlAll.focus {P H : Hp} {ow : List Addr} {σ : St} {ss : List Sl} (h : SlAll P H ow σ ss) : ∀ {i : Nat} {s : Sl}, ss[i]? = some s →
    ∃ (v : Option V) (fp : List Addr), σ[i]? = some v ∧ Sl1 P H fp v s ∧ (∀ a ∈ fp, a ∈ ow) ∧
      ∀ (P' H' : Hp) (fp' : List Addr) (v' : Option V) (s' : Sl), Same P P' → (∀ a ∈ ow, a ∉ fp → H' a = H a) → Sl1 P' H' fp' v' s' → (∀ a ∈ fp', a ∈ fp ∨ a ∉ ow) →
        ∃ ow', SlAll P' H' ow' (σ.set i v') (ss.set i s') ∧ ∀ a ∈ ow', a ∈ fp' ∨ (a ∈ ow ∧ a ∉ fp) := by
  induction h with
  | nil =>
    intro i s h
    simp at h
  | @cons ow f0 v s0 σ ss a dj hr ih =>
    intro i s h
    cases i with
    | zero =>
      have h : s0 = s := by simpa using h
      subst h
      refine ⟨v, f0, rfl, a, fun b hb => List.mem_append_left _ hb, fun P' H' fp' v' s' hp hh a' d => ⟨fp' ++ ow, .cons a' (fun b hb z => ?_) (hr.grow hp fun b hb => hh b (List.mem_append_right _ hb) fun z => dj b z hb), fun b hb => ?_⟩⟩
      · rcases d b hb with w | w
        · exact dj b w z
        · exact w (List.mem_append_right _ z)
      · rcases List.mem_append.mp hb with z | z
        · exact .inl z
        · exact .inr ⟨List.mem_append_right _ z, fun w => dj b w z⟩
    | succ i =>
      have h : ss[i]? = some s := by simpa using h
      obtain ⟨u, fp, e, q, sub, put⟩ := ih h
      refine ⟨u, fp, by simpa using e, q, fun b hb => List.mem_append_right _ (sub b hb), fun P' H' fp' v' s' hp hh a' d => ?_⟩
      have hf0 : ∀ b ∈ f0, b ∉ fp := fun b hb z => dj b hb (sub b z)
      obtain ⟨ow', g, m⟩ := put P' H' fp' v' s' hp (fun b hb hn => hh b (List.mem_append_right _ hb) hn) a' (fun b hb => (d b hb).imp id fun z w => z (List.mem_append_right _ w))
      refine ⟨f0 ++ ow', .cons (a.up hp fun b hb => hh b (List.mem_append_left _ hb) (hf0 b hb)) (fun b hb z => ?_) g, fun b hb => ?_⟩
      · rcases m b z with w | ⟨w, _⟩
        · rcases d b w with y | y
          · exact hf0 b hb y
          · exact y (List.mem_append_left _ hb)
        · exact dj b hb w
      · rcases List.mem_append.mp hb with z | z
        · exact .inr ⟨List.mem_append_left _ z, hf0 b z⟩
        · exact (m b z).imp id fun ⟨w, y⟩ => ⟨List.mem_append_right _ w, y⟩
end Ly
namespace Ly
open PySem L2
/-- the heap grows: P to P2 (persistent), H to H2; what is neither P's nor new stays apart from P2 -/
structure Gr (P H P2 H2 : Hp) : Prop where
  p : Same P P2
  l : Ld P2 H2
  h : Same H H2
  n : ∀ b, H b ≠ none → P b = none → P2 b = none
theorem Gr.refl {P H : Hp} (l : Ld P H) : Gr P H P H := ⟨Same.refl _, l, Same.refl _, fun _ _ e => e⟩
theorem some_of {H H2 : Hp} (h : Same H H2) {b : Addr} (n : H b ≠ none) : H2 b ≠ none := by
  cases e : H b with
  | none => exact absurd e n
  | some o => rw [h _ _ e]; exact fun z => by cases z
theorem Gr.trans {P H P2 H2 P3 H3 : Hp} (a : Gr P H P2 H2) (b : Gr P2 H2 P3 H3) : Gr P H P3 H3 :=
  ⟨a.p.trans b.p, b.l, a.h.trans b.h, fun c n e => b.n c (some_of a.h n) (a.n c n e)⟩
theorem same_upd {H : Hp} {p : Addr} {o : HO} (n : H p = none) : Same H (upd H p o) := fun b u e => by rw [upd_ne (ne_of_none e n)]; exact e
theorem Ld.none {P H : Hp} (l : Ld P H) {p : Addr} (n : H p = none) : P p = none := by
  cases e : P p with
  | none => rfl
  | some u =>
    rcases l p u e with q | ⟨_, o, q⟩
    · rw [n] at q; cases q
    · rw [n] at q; cases q
/-- a new object, persistent from now on -/
theorem Gr.new {P H : Hp} (l : Ld P H) {p : Addr} (n : H p = none) (o : HO) : Gr P H (upd P p o) (upd H p o) := by
  refine ⟨same_upd (l.none n), fun b u e => ?_, same_upd n, fun b h e => ?_⟩
  · by_cases hb : b = p
    · subst hb
      rw [upd_same] at e ⊢
      exact .inl e
    · rw [upd_ne hb] at e ⊢
      exact l b u e
  · have : b ≠ p := fun z => h (by rw [z]; exact n)
    rw [upd_ne this]; exact e
/-- a new object that nobody asks for -/
theorem Gr.junk {P H : Hp} (l : Ld P H) {p : Addr} (n : H p = none) (o : HO) : Gr P H P (upd H p o) :=
  ⟨Same.refl _, l.mono (same_upd n), same_upd n, fun _ _ e => e⟩
/-- an object that was made on the way becomes persistent -/
theorem Gr.freeze {P H P2 H2 : Hp} (g : Gr P H P2 H2) {p : Addr} {o : HO} (n : H p = none) (np : P2 p = none) (h : H2 p = some o) : Gr P H (upd P2 p o) H2 := by
  refine ⟨g.p.trans (same_upd np), fun b u e => ?_, g.h, fun b hb e => ?_⟩
  · by_cases q : b = p
    · subst q
      rw [upd_same] at e
      cases e
      exact .inl h
    · rw [upd_ne q] at e
      exact g.l b u e
  · have : b ≠ p := fun z => hb (by rw [z]; exact n)
    rw [upd_ne this]
    exact g.n b hb e
/-- a state of a def: entry P0, H0 (xs: what of the entry's objects it may change), now σ, P, H; ow: what the slots own -/
structure S8 (xs : List Addr) (P0 H0 : Hp) (ow : List Addr) (σ : St) (P H : Hp) (ss : List Sl) : Prop where
  p0 : Same P0 P
  ld : Ld P H
  h0 : ∀ b o, b ∉ xs → H0 b = some o → H b = some o
  nw : ∀ b, H0 b ≠ none → P0 b = none → P b = none
  ows : ∀ a ∈ ow, P a = none ∧ H a ≠ none ∧ (H0 a = none ∨ a ∈ xs)
  xh : ∀ a ∈ xs, H a ≠ none
  sl : SlAll P H ow σ ss
section
variable {xs : List Addr} {P0 H0 : Hp} {ow ow' : List Addr} {σ : St} {P H P2 H2 : Hp} {ss ss2 : List Sl}
theorem S8.hh (S : S8 xs P0 H0 ow σ P H ss) {b : Addr} (n : H0 b ≠ none) : H b ≠ none := by
  by_cases hx : b ∈ xs
  · exact S.xh b hx
  · cases e : H0 b with
    | none => exact absurd e n
    | some o => rw [S.h0 b o hx e]; exact fun z => by cases z
theorem S8.grow (S : S8 xs P0 H0 ow σ P H ss) (g : Gr P H P2 H2) : S8 xs P0 H0 ow σ P2 H2 ss where
  p0 := S.p0.trans g.p
  ld := g.l
  h0 := fun b o hb e => g.h _ _ (S.h0 b o hb e)
  nw := fun b n e => g.n b (S.hh n) (S.nw b n e)
  ows := fun a ha => ⟨g.n a (S.ows a ha).2.1 (S.ows a ha).1, some_of g.h (S.ows a ha).2.1, (S.ows a ha).2.2⟩
  xh := fun a ha => some_of g.h (S.xh a ha)
  sl := S.sl.grow g.p fun a ha => by
    cases e : H a with
    | none => exact absurd e (S.ows a ha).2.1
    | some o => exact g.h _ _ e
/-- the state seen from here on -/
theorem S8.here (S : S8 xs P0 H0 ow σ P H ss) : S8 ow P H ow σ P H ss :=
  ⟨Same.refl _, S.ld, fun _ _ _ e => e, fun _ _ e => e, fun a ha => ⟨(S.ows a ha).1, (S.ows a ha).2.1, .inr ha⟩, fun a ha => (S.ows a ha).2.1, S.sl⟩
theorem S8.back {σ2 : St} (S : S8 xs P0 H0 ow σ P H ss) (S2 : S8 ow P H ow' σ2 P2 H2 ss2) (sub : ∀ a ∈ ow', a ∈ ow ∨ H a = none) : S8 xs P0 H0 ow' σ2 P2 H2 ss2 where
  p0 := S.p0.trans S2.p0
  ld := S2.ld
  h0 := fun b o hb e => S2.h0 b o (fun z => by
    rcases (S.ows b z).2.2 with q | q
    · rw [q] at e; cases e
    · exact hb q) (S.h0 b o hb e)
  nw := fun b n e => S2.nw b (S.hh n) (S.nw b n e)
  ows := fun a ha => ⟨(S2.ows a ha).1, (S2.ows a ha).2.1, by
    rcases sub a ha with q | q
    · exact (S.ows a q).2.2
    · by_cases hx : a ∈ xs
      · exact .inr hx
      · refine .inl ?_
        cases e : H0 a with
        | none => rfl
        | some o => have := S.h0 a o hx e; rw [q] at this; cases this⟩
  xh := fun a ha => S2.hh (S.xh a ha)
  sl := S2.sl
/-- what is not there now was not there at the entry -/
theorem S8.gone (S : S8 xs P0 H0 ow σ P H ss) {b : Addr} (n : H b = none) : H0 b = none := by
  cases e : H0 b with
  | none => rfl
  | some o => exact absurd n (S.hh (by rw [e]; exact fun z => by cases z))
/-- an object that was made since, and is no slot's own, becomes persistent -/
theorem S8.freeze (S : S8 xs P0 H0 ow σ P H ss) {l : Addr} {o : HO} (n : H0 l = none) (nx : l ∉ xs) (no : l ∉ ow) (np : P l = none) (h : H l = some o) : S8 xs P0 H0 ow σ (upd P l o) H ss where
  p0 := S.p0.trans (same_upd np)
  ld := fun b u e => by
    by_cases q : b = l
    · subst q
      rw [upd_same] at e
      cases e
      exact .inl h
    · rw [upd_ne q] at e
      exact S.ld b u e
  h0 := S.h0
  nw := fun b hb e => by
    have : b ≠ l := fun z => hb (by rw [z]; exact n)
    rw [upd_ne this]
    exact S.nw b hb e
  ows := fun a ha => by
    have : a ≠ l := fun z => no (z ▸ ha)
    rw [upd_ne this]
    exact S.ows a ha
  xh := S.xh
  sl := S.sl.grow (same_upd np) fun _ _ => rfl
theorem S8.gr (S : S8 [] P0 H0 ow σ P H ss) : Gr P0 H0 P H := ⟨S.p0, S.ld, fun b o e => S.h0 b o (by simp) e, S.nw⟩
/-- a slot that holds a persistent value -/
theorem S8.get (S : S8 xs P0 H0 ow σ P H ss) {i : Nat} {R : Pr} (h : ss[i]? = some (.pr R)) : ∃ v, σ[i]? = some (some v) ∧ R.p P v := by
  obtain ⟨v, fp, e, q, _⟩ := S.sl.focus h
  cases q with
  | pr r => exact ⟨_, e, r⟩
/-- a slot gets a persistent value -/
theorem S8.set (S : S8 xs P0 H0 ow σ P H ss) {i : Nat} {s : Sl} (h : ss[i]? = some s) {R : Pr} {v : V} (r : R.p P v) : ∃ ow', S8 xs P0 H0 ow' (σ.set i (some v)) P H (ss.set i (.pr R)) := by
  obtain ⟨_, fp, _, _, _, put⟩ := S.sl.focus h
  obtain ⟨ow', g, m⟩ := put P H [] (some v) (.pr R) (Same.refl _) (fun _ _ _ => rfl) (.pr r) (fun a z => absurd z (by simp))
  exact ⟨ow', S.p0, S.ld, S.h0, S.nw, fun a ha => S.ows a ((m a ha).elim (fun z => absurd z (by simp)) (·.1)), S.xh, g⟩
/-- a slot is forgotten -/
theorem S8.drop (S : S8 xs P0 H0 ow σ P H ss) {i : Nat} {s : Sl} (h : ss[i]? = some s) (v : Option V) : ∃ ow', S8 xs P0 H0 ow' (σ.set i v) P H (ss.set i .un) := by
  obtain ⟨_, fp, _, _, _, put⟩ := S.sl.focus h
  obtain ⟨ow', g, m⟩ := put P H [] v .un (Same.refl _) (fun _ _ _ => rfl) .un (fun a z => absurd z (by simp))
  exact ⟨ow', S.p0, S.ld, S.h0, S.nw, fun a ha => S.ows a ((m a ha).elim (fun z => absurd z (by simp)) (·.1)), S.xh, g⟩
/-- a slot gets an object of its own -/
theorem S8.own (S : S8 xs P0 H0 ow σ P H ss) {i : Nat} {s : Sl} (h : ss[i]? = some s) {O : Ow} {v : V} {fp : List Addr} (r : O.ok P H v fp)
    (n : ∀ a ∈ fp, P a = none ∧ H a ≠ none ∧ H0 a = none ∧ a ∉ ow) : ∃ ow', S8 xs P0 H0 ow' (σ.set i (some v)) P H (ss.set i (.ow O)) := by
  obtain ⟨_, f0, _, _, _, put⟩ := S.sl.focus h
  obtain ⟨ow', g, m⟩ := put P H fp (some v) (.ow O) (Same.refl _) (fun _ _ _ => rfl) (.ow r) (fun a z => .inr (n a z).2.2.2)
  exact ⟨ow', S.p0, S.ld, S.h0, S.nw, fun a ha => (m a ha).elim (fun z => ⟨(n a z).1, (n a z).2.1, .inl (n a z).2.2.1⟩) (fun z => S.ows a z.1), S.xh, g⟩
/-- the object that a slot owns -/
theorem S8.owned (S : S8 xs P0 H0 ow σ P H ss) {i : Nat} {O : Ow} (h : ss[i]? = some (.ow O)) : ∃ v fp, σ[i]? = some (some v) ∧ O.ok P H v fp ∧ (∀ a ∈ fp, a ∈ ow) ∧
    ∀ (H' : Hp) (O' : Ow), (∀ b, b ∉ fp → H' b = H b) → (∀ b ∈ fp, H' b ≠ none) → O'.ok P H' v fp → ∃ ow', (∀ a ∈ ow', a ∈ ow) ∧ S8 xs P0 H0 ow' σ P H' (ss.set i (.ow O')) := by
  obtain ⟨v, fp, e, q, sub, put⟩ := S.sl.focus h
  cases q with
  | @ow _ v _ r =>
    refine ⟨v, fp, e, r, sub, fun H' O' k ks r' => ?_⟩
    obtain ⟨ow', g, m⟩ := put P H' fp (some v) (.ow O') (Same.refl _) (fun a _ n => k a n) (.ow r') (fun a z => .inl z)
    have hin : ∀ a ∈ ow', a ∈ ow := fun a ha => (m a ha).elim (sub a) (·.1)
    have hσ : σ.set i (some v) = σ := by
      refine List.ext_getElem? fun j => ?_
      by_cases hj : i = j
      · subst hj
        rw [List.getElem?_set_self (List.getElem?_eq_some_iff.mp e).1, e]
      · rw [List.getElem?_set_ne hj]
    rw [hσ] at g
    have hne : ∀ b, H b ≠ none → H' b ≠ none := fun b hb => by
      by_cases q : b ∈ fp
      · exact ks b q
      · rw [k b q]; exact hb
    refine ⟨ow', hin, S.p0, fun b u eb => ?_, fun b o hb eb => ?_, S.nw, fun a ha => ⟨(S.ows a (hin a ha)).1, hne a (S.ows a (hin a ha)).2.1, (S.ows a (hin a ha)).2.2⟩, fun a ha => hne a (S.xh a ha), g⟩
    · rw [k b fun z => by rw [(S.ows b (sub b z)).1] at eb; cases eb]
      exact S.ld b u eb
    · rw [k b fun z => ?_]
      · exact S.h0 b o hb eb
      · rcases (S.ows b (sub b z)).2.2 with q | q
        · rw [q] at eb; cases eb
        · exact hb q
end
/-- some slots are forgotten -/
inductive Wk : List Sl → List Sl → Prop where
  | nil : Wk [] []
  | keep {s : Sl} {a b : List Sl} : Wk a b → Wk (s :: a) (s :: b)
  | drop {s : Sl} {a b : List Sl} : Wk a b → Wk (s :: a) (.un :: b)
theorem Wk.refl : ∀ a : List Sl, Wk a a
  | [] => .nil
  | _ :: a => .keep (Wk.refl a)
theorem SlAll.weak {P H : Hp} {ow : List Addr} {σ : St} {ss : List Sl} (h : SlAll P H ow σ ss) : ∀ {ss' : List Sl}, Wk ss ss' → ∃ ow', (∀ a ∈ ow', a ∈ ow) ∧ SlAll P H ow' σ ss' := by
  induction h with
  | nil => intro ss' w; cases w; exact ⟨[], fun a z => z, .nil⟩
  | @cons ow fp v s σ ss a d hr ih =>
    intro ss' w
    cases w with
    | keep w =>
      obtain ⟨ow', m, g⟩ := ih w
      exact ⟨fp ++ ow', fun b hb => (List.mem_append.mp hb).elim (List.mem_append_left _) (fun z => List.mem_append_right _ (m b z)), .cons a (fun b hb z => d b hb (m b z)) g⟩
    | drop w =>
      obtain ⟨ow', m, g⟩ := ih w
      exact ⟨[] ++ ow', fun b hb => List.mem_append_right _ (m b hb), .cons .un (fun b hb => absurd hb (by simp)) g⟩
theorem S8.weak {xs : List Addr} {P0 H0 : Hp} {ow : List Addr} {σ : St} {P H : Hp} {ss ss' : List Sl} (S : S8 xs P0 H0 ow σ P H ss) (w : Wk ss ss') : ∃ ow', S8 xs P0 H0 ow' σ P H ss' := by
  obtain ⟨ow', m, g⟩ := S.sl.weak w
  exact ⟨ow', S.p0, S.ld, S.h0, S.nw, fun a ha => S.ows a (m a ha), S.xh, g⟩
/-- some state with these slots -/
def At8 (xs : List Addr) (P0 H0 : Hp) (ss : List Sl) (σ : St) (H : Hp) : Prop := ∃ ow P, S8 xs P0 H0 ow σ P H ss
theorem at8 {xs : List Addr} {P0 H0 : Hp} {ow : List Addr} {σ : St} {P H : Hp} {ss ss' : List Sl} (S : S8 xs P0 H0 ow σ P H ss) (w : Wk ss ss') : At8 xs P0 H0 ss' σ H := by
  obtain ⟨ow', S'⟩ := S.weak w
  exact ⟨ow', P, S'⟩
theorem at8e {xs : List Addr} {P0 H0 : Hp} {ow : List Addr} {σ : St} {P H : Hp} {ss ss' : List Sl} (S : S8 xs P0 H0 ow σ P H ss) (e : ss = ss') : At8 xs P0 H0 ss' σ H := e ▸ ⟨ow, P, S⟩
/-! ### readings on the syntax: F is a family of contexts (one def's body; the blocks of a comprehension) -/
def XE {ι : Type} (F : ι → Cx) (e : Expr) : TE := fun σ H Q => ∃ t, (∀ i, PE (F i) e t) ∧ t σ H Q
def XT {ι : Type} (F : ι → Cx) (e : Expr) : TT := fun σ H Q => ∃ t, (∀ i, PT (F i) e t) ∧ t σ H Q
def XW {ι : Type} (F : ι → Cx) (e : Expr) : TT := fun σ H Q => ∃ t, (∀ i, PW (F i) e t) ∧ t σ H Q
def XA {ι : Type} (F : ι → Cx) (es : List Expr) : TA := fun σ H Q => ∃ t, (∀ i, PA (F i) es t) ∧ t σ H Q
def XI {ι : Type} (F : ι → Cx) (tg e : Expr) : TI := fun σ H R => ∃ t, (∀ i, PI (F i) tg e t) ∧ t σ H R
def XG {ι : Type} (F : ι → Cx) (e : Expr) : TG := fun v σ H Q => ∃ t, (∀ i, PG (F i) e t) ∧ t v σ H Q
def X1 (X : Cx) (st : Stmt) : TS := fun D σ H => ∃ t, PS X st t ∧ t D σ H
def XS (X : Cx) (sts : List Stmt) : TS := fun D σ H => ∃ t, PSs X sts t ∧ t D σ H
/-- one context -/
abbrev C1 (X : Cx) : Unit → Cx := fun _ => X
section
variable {ι : Type} {F : ι → Cx} {X : Cx}
theorem xe {e : Expr} (i : ι) : PE (F i) e (XE F e) := ⟨fun pins s σ H Q I ⟨_, h, q⟩ => (h i).run pins s σ H Q I q⟩
theorem xt {e : Expr} (i : ι) : PT (F i) e (XT F e) := ⟨fun pins s σ H Q I ⟨_, h, q⟩ => (h i).run pins s σ H Q I q⟩
theorem xw {e : Expr} (i : ι) : PW (F i) e (XW F e) := ⟨fun wh pins s σ H Q I ⟨_, h, q⟩ => (h i).run wh pins s σ H Q I q⟩
theorem xa {es : List Expr} (i : ι) : PA (F i) es (XA F es) := ⟨fun pos pins s σ H Q I ⟨_, h, q⟩ => (h i).run pos pins s σ H Q I q⟩
theorem xi {tg e : Expr} (i : ι) : PI (F i) tg e (XI F tg e) := ⟨fun pins s σ H R I ⟨_, h, q⟩ => (h i).run pins s σ H R I q⟩
theorem xg {e : Expr} (i : ι) : PG (F i) e (XG F e) := ⟨fun pins s σ H v u Q I r ⟨_, h, q⟩ => (h i).run pins s σ H v u Q I r q⟩
theorem x1 {st : Stmt} : PS X st (X1 X st) := ⟨fun pins s σ H D I ⟨_, h, q⟩ => h.run pins s σ H D I q⟩
theorem xs {sts : List Stmt} : PSs X sts (XS X sts) := ⟨fun pins s σ H D I ⟨_, h, q⟩ => h.run pins s σ H D I q⟩
end
abbrev PL (P : Hp) : List Pr → List V → Prop := Paired fun R v => R.p P v
theorem PL.up {P P' : Hp} {Rs : List Pr} {vs : List V} (h : PL P Rs vs) (e : Same P P') : PL P' Rs vs := by
  induction h with
  | nil => exact .nil
  | cons r _ ih => exact .cons (Pr.up _ e r) ih
section
variable {ι : Type} (F : ι → Cx)
/-- e gives a value of R; the slots' objects may have changed from ss to ss' -/
def JE (e : Expr) (ss : List Sl) (R : Pr) (ss' : List Sl) : Prop :=
  ∀ (xs : List Addr) (P0 H0 : Hp) (ow : List Addr) (σ : St) (P H : Hp), S8 xs P0 H0 ow σ P H ss → ∀ Q : VK,
    (∀ v P2 H2, S8 xs P0 H0 ow σ P2 H2 ss' → Same P P2 → R.p P2 v → Q v H2) → XE F e σ H Q
/-- e as a test -/
def JT (e : Expr) (ss : List Sl) (b : Bool) (ss' : List Sl) : Prop :=
  ∀ (xs : List Addr) (P0 H0 : Hp) (ow : List Addr) (σ : St) (P H : Hp), S8 xs P0 H0 ow σ P H ss → ∀ Q : Bool → Hp → Prop,
    (∀ P2 H2, S8 xs P0 H0 ow σ P2 H2 ss' → Same P P2 → Q b H2) → XT F e σ H Q
def JW (e : Expr) (ss : List Sl) (b : Bool) (ss' : List Sl) : Prop :=
  ∀ (xs : List Addr) (P0 H0 : Hp) (ow : List Addr) (σ : St) (P H : Hp), S8 xs P0 H0 ow σ P H ss → ∀ Q : Bool → Hp → Prop,
    (∀ P2 H2, S8 xs P0 H0 ow σ P2 H2 ss' → Same P P2 → Q b H2) → XW F e σ H Q
def JA (es : List Expr) (ss : List Sl) (Rs : List Pr) (ss' : List Sl) : Prop :=
  ∀ (xs : List Addr) (P0 H0 : Hp) (ow : List Addr) (σ : St) (P H : Hp), S8 xs P0 H0 ow σ P H ss → ∀ Q : List V → Hp → Prop,
    (∀ vs P2 H2, S8 xs P0 H0 ow σ P2 H2 ss' → Same P P2 → PL P2 Rs vs → Q vs H2) → XA F es σ H Q
/-- e gives a new list that nobody holds yet -/
def JF (e : Expr) (ss : List Sl) (Rs : List Pr) (ss' : List Sl) : Prop :=
  ∀ (xs : List Addr) (P0 H0 : Hp) (ow : List Addr) (σ : St) (P H : Hp), S8 xs P0 H0 ow σ P H ss → ∀ Q : VK,
    (∀ l vs P2 H2, S8 xs P0 H0 ow σ P2 H2 ss' → Same P P2 → H l = none → P2 l = none → H2 l = some (.lst vs) → PL P2 Rs vs → Q (.ref l) H2) → XE F e σ H Q
end
end Ly
namespace Ly
open PySem L2
/-! ### what is told of a value -/
def pV (x : V) : Pr := ⟨fun _ v => v = x, fun _ h => h⟩
abbrev pI (i : Int) : Pr := pV (.int i)
abbrev pB (b : Bool) : Pr := pV (.bl b)
abbrev pN : Pr := pV .non
abbrev pS (s : Str) : Pr := pV (.str s)
theorem sqT_up {K : PySem.W.Frag} {P P' : Hp} {a : Addr} {xs : List V} (e : Same P P') (h : SqT K P a xs) : SqT K P' a xs := by
  rcases h with (h | ⟨o, h⟩) | h
  · exact .inl (.inl (e _ _ h))
  · exact .inl (.inr ⟨o, e _ _ h⟩)
  · exact .inr h
theorem sqL_up {K : PySem.W.Frag} {P P' : Hp} {a : Addr} {xs : List V} (e : Same P P') (h : SqL K P a xs) : SqL K P' a xs := by
  rcases h with (h | ⟨o, h⟩) | h
  · exact .inl (.inl (e _ _ h))
  · exact .inl (.inr ⟨o, e _ _ h⟩)
  · exact .inr h
/-- a tuple of such values, tracked in P -/
def Tp (_K : PySem.W.Frag) (P : Hp) (a : Addr) (xs : List V) : Prop := P a = some (.tup xs)
theorem Tp.sq {K : PySem.W.Frag} {P H : Hp} (l : Ld P H) {a : Addr} {xs : List V} (h : Tp K P a xs) : SqT K H a xs := .inl (l.rd h)
theorem Tp.up {K : PySem.W.Frag} {P P' : Hp} {a : Addr} {xs : List V} (e : Same P P') (h : Tp K P a xs) : Tp K P' a xs := e _ _ h
/-- a tuple of the written part -/
def pC (K : PySem.W.Frag) (xs : List V) : Pr := ⟨fun _ v => ∃ a, v = .ref a ∧ ∀ H : Hp, SqT K H a xs, fun _ h => h⟩
def pT (K : PySem.W.Frag) (Rs : List Pr) : Pr := ⟨fun P v => ∃ a xs, v = .ref a ∧ Tp K P a xs ∧ PL P Rs xs ∧ xs.length ≤ sizeLine, fun e ⟨a, xs, h1, h2, h3, h4⟩ => ⟨a, xs, h1, h2.up e, h3.up e, h4⟩⟩
/-- a list; it is never changed any more -/
def pL (Rs : List Pr) : Pr := ⟨fun P v => ∃ a xs, v = .ref a ∧ P a = some (.lst xs) ∧ PL P Rs xs, fun e ⟨a, xs, h1, h2, h3⟩ => ⟨a, xs, h1, e _ _ h2, h3.up e⟩⟩
theorem PL.len {P : Hp} {Rs : List Pr} {vs : List V} (h : PL P Rs vs) : vs.length = Rs.length := (Paired.length h).symm
theorem PL.at {P : Hp} {Rs : List Pr} {vs : List V} (h : PL P Rs vs) : ∀ {i : Nat} {R : Pr}, Rs[i]? = some R → ∃ v, vs[i]? = some v ∧ R.p P v := by
  induction h with
  | nil => intro i R e; simp at e
  | cons r _ ih =>
    intro i R e
    cases i with
    | zero =>
      simp only [List.getElem?_cons_zero, Option.some.injEq] at e
      subst e; exact ⟨_, rfl, r⟩
    | succ i => obtain ⟨v, h1, h2⟩ := ih (by simpa using e); exact ⟨v, by simpa using h1, h2⟩
theorem PL.at' {P : Hp} {Rs : List Pr} {vs : List V} (h : PL P Rs vs) {i : Nat} {v : V} (e : vs[i]? = some v) : ∃ R, Rs[i]? = some R ∧ R.p P v := by
  have hl := h.len
  have hi := (List.getElem?_eq_some_iff.mp e).1
  have : i < Rs.length := by omega
  obtain ⟨w, h1, h2⟩ := h.at (List.getElem?_eq_getElem this)
  rw [e] at h1; cases h1
  exact ⟨_, List.getElem?_eq_getElem this, h2⟩
theorem PL.app {P : Hp} {Rs Ss : List Pr} {vs ws : List V} (h : PL P Rs vs) (g : PL P Ss ws) : PL P (Rs ++ Ss) (vs ++ ws) := by
  induction h with
  | nil => exact g
  | cons r _ ih => exact .cons r ih
theorem PL.take {P : Hp} {Rs : List Pr} {vs : List V} (h : PL P Rs vs) : ∀ n, PL P (Rs.take n) (vs.take n) := by
  induction h with
  | nil => intro n; simp; exact .nil
  | cons r _ ih =>
    intro n
    cases n with
    | zero => exact .nil
    | succ n => exact .cons r (ih n)
theorem PL.drop {P : Hp} {Rs : List Pr} {vs : List V} (h : PL P Rs vs) : ∀ n, PL P (Rs.drop n) (vs.drop n) := by
  induction h with
  | nil => intro n; simp; exact .nil
  | cons r hr ih =>
    intro n
    cases n with
    | zero => exact .cons r hr
    | succ n => exact ih n
theorem PL.set {P : Hp} {Rs : List Pr} {vs : List V} {R : Pr} {v : V} (h : PL P Rs vs) (r : R.p P v) : ∀ n, PL P (Rs.set n R) (vs.set n v) := by
  induction h with
  | nil => intro n; exact .nil
  | cons q hr ih =>
    intro n
    cases n with
    | zero => exact .cons r hr
    | succ n => exact .cons q (ih n)
theorem PL.scal {P : Hp} : ∀ {xs vs : List V}, PL P (xs.map pV) vs → vs = xs
  | [], _, .nil => rfl
  | _ :: _, _, .cons r h => by rw [show _ = _ from r, PL.scal h]
theorem PL.of_scal {P : Hp} : ∀ xs : List V, PL P (xs.map pV) xs
  | [] => .nil
  | _ :: xs => .cons rfl (PL.of_scal xs)
/-- an owned list -/
def oL (Rs : List Pr) : Ow := ⟨fun P H v fp => ∃ l xs, v = .ref l ∧ fp = [l] ∧ H l = some (.lst xs) ∧ PL P Rs xs,
  fun {P P' H H' v fp} e k ⟨l, xs, h1, h2, h3, h4⟩ => ⟨l, xs, h1, h2, by subst h2; rw [k l (by simp)]; exact h3, h4.up e⟩⟩
/-! ### two values -/
def RVr (r : R2) (R1 R2 R : Pr) : Prop := ∀ (P H : Hp) (u v : V) (Q : VK), Ld P H → R1.p P u → R2.p P v → (∀ w P2 H2, Gr P H P2 H2 → R.p P2 w → Q w H2) → r u v H Q
/-- .. that make nothing -/
theorem rv0 {r : R2} {R1 R2 R : Pr} (h : ∀ (P H : Hp) (u v : V) (Q : VK), Ld P H → R1.p P u → R2.p P v → (∀ w, R.p P w → Q w H) → r u v H Q) : RVr r R1 R2 R :=
  fun P H u v Q l a b k => h P H u v Q l a b fun w q => k w P H (Gr.refl l) q
theorem rv_I0 {g : Int → Int → V} {i j : Int} : RVr (rI0 g) (pI i) (pI j) (pV (g i j)) := rv0 fun P H u v Q l a b k => ⟨i, j, a, b, k _ rfl⟩
theorem rv_I {C : Int → Int → Prop} {g : Int → Int → V} {i j : Int} (c : C i j) : RVr (rI C g) (pI i) (pI j) (pV (g i j)) := rv0 fun P H u v Q l a b k => ⟨i, j, a, b, c, k _ rfl⟩
theorem rv_eq {x y : V} (h : scal x y = true) : RVr rEq (pV x) (pV y) (pB (decide (x = y))) := rv0 fun P H u v Q l a b k => by
  cases a; cases b; exact ⟨h, k _ rfl⟩
theorem rv_ne {x y : V} (h : scal x y = true) : RVr rNe (pV x) (pV y) (pB (!decide (x = y))) := rv0 fun P H u v Q l a b k => by
  cases a; cases b; exact ⟨h, k _ rfl⟩
theorem rv_eqI {i j : Int} : RVr rEq (pI i) (pI j) (pB (decide (i = j))) := rv0 fun P H u v Q l a b k => by
  cases a; cases b
  refine ⟨rfl, ?_⟩
  have : decide (V.int i = V.int j) = decide (i = j) := by simp
  rw [this]; exact k _ rfl
theorem rv_neI {i j : Int} : RVr rNe (pI i) (pI j) (pB (!decide (i = j))) := rv0 fun P H u v Q l a b k => by
  cases a; cases b
  refine ⟨rfl, ?_⟩
  have : decide (V.int i = V.int j) = decide (i = j) := by simp
  rw [this]; exact k _ rfl
theorem rv_isN {x : V} : RVr (fun x y H Q => y = .non ∧ Q (.bl (decide (x = .non))) H) (pV x) pN (pB (decide (x = .non))) := rv0 fun P H u v Q l a b k => by
  cases a; cases b; exact ⟨rfl, k _ rfl⟩
/-- x in a written or made tuple of flat things -/
theorem rv_inT {K : PySem.W.Frag} {neg : Bool} {x : V} {xs : List V} (hx : flatV x = true) (hs : xs.all flatV = true) : RVr (rIn K neg) (pV x) (pT K (xs.map pV)) (pB (if neg then !inV x xs else inV x xs)) :=
  rv0 fun P H u v Q l a b k => by
    obtain ⟨p, ys, rfl, h2, h3, _⟩ := b
    cases a
    have := h3.scal
    subst this
    exact ⟨p, _, rfl, .inr (h2.sq l), hx, hs, k _ rfl⟩
theorem rv_inL {K : PySem.W.Frag} {neg : Bool} {x : V} {xs : List V} (hx : flatV x = true) (hs : xs.all flatV = true) : RVr (rIn K neg) (pV x) (pL (xs.map pV)) (pB (if neg then !inV x xs else inV x xs)) :=
  rv0 fun P H u v Q l a b k => by
    obtain ⟨p, ys, rfl, h2, h3⟩ := b
    cases a
    have := h3.scal
    subst this
    exact ⟨p, _, rfl, .inl (.inl (l.rd h2)), hx, hs, k _ rfl⟩
theorem rv_isC {K : PySem.W.Frag} {x : V} {xs : List V} (hx : flatV x = true) (hs : xs.all flatV = true) : RVr (rIn K false) (pV x) (pC K xs) (pB (inV x xs)) := rv0 fun P H u v Q l a b k => by
  obtain ⟨p, rfl, h2⟩ := b
  cases a
  exact ⟨p, _, rfl, .inr (h2 H), hx, hs, k _ rfl⟩
theorem rv_isT {K : PySem.W.Frag} {x : V} {xs : List V} (hx : flatV x = true) (hs : xs.all flatV = true) : RVr (rIn K false) (pV x) (pT K (xs.map pV)) (pB (inV x xs)) := rv_inT (neg := false) hx hs
theorem rv_niT {K : PySem.W.Frag} {x : V} {xs : List V} (hx : flatV x = true) (hs : xs.all flatV = true) : RVr (rIn K true) (pV x) (pT K (xs.map pV)) (pB (!inV x xs)) := rv_inT (neg := true) hx hs
theorem rv_isL {K : PySem.W.Frag} {x : V} {xs : List V} (hx : flatV x = true) (hs : xs.all flatV = true) : RVr (rIn K false) (pV x) (pL (xs.map pV)) (pB (inV x xs)) := rv_inL (neg := false) hx hs
theorem rv_niL {K : PySem.W.Frag} {x : V} {xs : List V} (hx : flatV x = true) (hs : xs.all flatV = true) : RVr (rIn K true) (pV x) (pL (xs.map pV)) (pB (!inV x xs)) := rv_inL (neg := true) hx hs
theorem ixN_nat {n : Nat} {i : Int} {j : Nat} (h : i = (j : Int)) (hj : j < n) : ixN n i = some j := by
  subst h
  unfold ixN
  rw [if_pos (Int.natCast_nonneg j), if_pos (by omega), Int.toNat_natCast]
theorem ixN_neg {n : Nat} {i : Int} {j : Nat} (h : i < 0) (hj : i + n = (j : Int)) (hn : -(n : Int) ≤ i) : ixN n i = some j := by
  unfold ixN
  rw [if_neg (by omega), if_pos hn, hj, Int.toNat_natCast]
theorem rv_ixT {K : PySem.W.Frag} {Rs : List Pr} {i : Int} {R : Pr} {j : Nat} (hj : ixN Rs.length i = some j) (h : Rs[j]? = some R) : RVr (rIxT K) (pT K Rs) (pI i) R := rv0 fun P H u v Q l a b k => by
  obtain ⟨p, ys, rfl, h2, h3, _⟩ := a
  cases b
  obtain ⟨w, e1, e2⟩ := h3.at h
  refine ⟨p, ys, i, w, rfl, rfl, h2.sq l, ?_, k w e2⟩
  unfold atI
  rw [h3.len, hj]
  exact e1
theorem rv_ixL {K : PySem.W.Frag} {Rs : List Pr} {i : Int} {R : Pr} {j : Nat} (hj : ixN Rs.length i = some j) (h : Rs[j]? = some R) : RVr (rIxL K) (pL Rs) (pI i) R := rv0 fun P H u v Q l a b k => by
  obtain ⟨p, ys, rfl, h2, h3⟩ := a
  cases b
  obtain ⟨w, e1, e2⟩ := h3.at h
  refine ⟨p, ys, i, w, rfl, rfl, .inl (l.rd h2), ?_, k w e2⟩
  unfold atI
  rw [h3.len, hj]
  exact e1
theorem pl_nil {P : Hp} {Rs : List Pr} (h : PL P Rs []) : Rs = [] := by cases h; rfl
theorem rv_catT {K : PySem.W.Frag} {Rs Ss : List Pr} (hz : Rs.length + Ss.length ≤ sizeLine) : RVr (rCatA K) (pT K Rs) (pT K Ss) (pT K (Rs ++ Ss)) := fun P H u v Q l a b k => by
  obtain ⟨p, ys, rfl, h2, h3, h4⟩ := a
  obtain ⟨q, zs, rfl, g2, g3, g4⟩ := b
  have e1 := h3.len
  have e2 := g3.len
  refine ⟨p, q, ys, zs, rfl, rfl, h2.sq l, g2.sq l, by omega, fun e => ?_, fun e f => ?_, fun e f t ht => ?_⟩
  · subst e
    have := pl_nil h3
    subst this
    exact k _ P H (Gr.refl l) ⟨q, zs, rfl, g2, g3, g4⟩
  · subst f
    have := pl_nil g3
    subst this
    exact k _ P H (Gr.refl l) ⟨p, ys, rfl, h2, by rw [List.append_nil]; exact h3, h4⟩
  · have g := Gr.new l ht (.tup (ys ++ zs))
    exact k _ _ _ g ⟨t, _, rfl, upd_same, (h3.app g3).up g.p, by rw [List.length_append]; omega⟩
/-! ### expressions -/
section
variable {ι : Type} {F : ι → Cx} {K : PySem.W.Frag} {ss ss1 ss2 ss3 : List Sl} {R Ra Rb : Pr} {a b c : Expr} {pos : Pos}
theorem je_v (i : Nat) {e : Expr} (h : ∀ j, PE (F j) e (tVar i)) (hs : ss[i]? = some (.pr R) := by rfl) : JE F e ss R ss := fun xs P0 H0 ow σ P H S Q k => by
  obtain ⟨v, e1, r⟩ := S.get hs
  exact ⟨_, h, v, e1, k v P H S (Same.refl _) r⟩
theorem je_c {e : Expr} {x : V} (h : ∀ j, PE (F j) e (tC x)) : JE F e ss (pV x) ss := fun xs P0 H0 ow σ P H S Q k => ⟨_, h, k x P H S (Same.refl _) rfl⟩
theorem je_i {i : Int} {j : Nat} : JE F (.Constant (.int i) j pos) ss (pI i) ss := je_c fun _ => pe_int
theorem je_bl {i : Bool} {j : Nat} : JE F (.Constant (.bool i) j pos) ss (pB i) ss := je_c fun _ => pe_bl
theorem je_n {j : Nat} : JE F (.Constant .none j pos) ss pN ss := je_c fun _ => pe_non
theorem je_s {x : Str} {j : Nat} : JE F (.Constant (.str x) j pos) ss (pS x) ss := je_c fun _ => pe_str
theorem bin2 {r : R2} (ha : JE F a ss Ra ss1) (hb : JE F b ss1 Rb ss2) (hr : RVr r Ra Rb R) {xs : List Addr} {P0 H0 : Hp} {ow : List Addr} {σ : St} {P H : Hp} (S : S8 xs P0 H0 ow σ P H ss) {Q : VK}
    (k : ∀ v P2 H2, S8 xs P0 H0 ow σ P2 H2 ss2 → Same P P2 → R.p P2 v → Q v H2) : tOp r (XE F a) (XE F b) σ H Q :=
  ha _ _ _ _ _ _ _ S _ fun v P2 H2 S2 e2 r2 => hb _ _ _ _ _ _ _ S2 _ fun w P3 H3 S3 e3 r3 => hr P3 H3 v w Q S3.ld (Ra.up e3 r2) r3 fun z P4 H4 g r4 => k z P4 H4 (S3.grow g) (e2.trans (e3.trans g.p)) r4
theorem je_op {op : Operator} {r : R2} (ho : ∀ i, OpR (F i) (binaryOp op) r) (hr : RVr r Ra Rb R) (ha : JE F a ss Ra ss1) (hb : JE F b ss1 Rb ss2) : JE F (.BinOp a op b pos) ss R ss2 := fun xs P0 H0 ow σ P H S Q k =>
  ⟨_, fun i => pe_op (ho i) (xe i) (xe i), bin2 ha hb hr S k⟩
theorem je_add {i j : Int} (ha : JE F a ss (pI i) ss1) (hb : JE F b ss1 (pI j) ss2) : JE F (.BinOp a .Add b pos) ss (pI (i + j)) ss2 := je_op (fun _ => op_add) rv_I0 ha hb
theorem je_sub {i j : Int} (ha : JE F a ss (pI i) ss1) (hb : JE F b ss1 (pI j) ss2) : JE F (.BinOp a .Sub b pos) ss (pI (i - j)) ss2 := je_op (fun _ => op_sub) rv_I0 ha hb
theorem je_mul {i j : Int} (ha : JE F a ss (pI i) ss1) (hb : JE F b ss1 (pI j) ss2) (hc : CMul i j) : JE F (.BinOp a .Mult b pos) ss (pI (i * j)) ss2 := je_op (fun _ => op_mul) (rv_I hc) ha hb
theorem je_mod {i j : Int} (ha : JE F a ss (pI i) ss1) (hb : JE F b ss1 (pI j) ss2) (hc : 0 < j) : JE F (.BinOp a .Mod b pos) ss (pI (i % j)) ss2 := je_op (fun _ => op_mod) (rv_I hc) ha hb
theorem je_fdiv {i j : Int} (ha : JE F a ss (pI i) ss1) (hb : JE F b ss1 (pI j) ss2) (hc : CDiv i j) : JE F (.BinOp a .FloorDiv b pos) ss (pI (i / j)) ss2 := je_op (fun _ => op_fdiv) (rv_I hc) ha hb
theorem je_shl {i j : Int} (ha : JE F a ss (pI i) ss1) (hb : JE F b ss1 (pI j) ss2) (hc : CPow i j) : JE F (.BinOp a .LShift b pos) ss (pI (i * 2 ^ j.toNat)) ss2 := je_op (fun _ => op_shl) (rv_I hc) ha hb
theorem je_catT {Rs Ss : List Pr} (ha : JE F a ss (pT K Rs) ss1) (hb : JE F b ss1 (pT K Ss) ss2) (hz : Rs.length + Ss.length ≤ sizeLine) (hK : ∀ i, (F i).K = K := by intro _; rfl) : JE F (.BinOp a .Add b pos) ss (pT K (Rs ++ Ss)) ss2 := je_op (fun i => hK i ▸ op_catA) (rv_catT hz) ha hb
theorem je_ixT {Rs : List Pr} {i : Int} {j : Nat} (ha : JE F a ss (pT K Rs) ss1) (hb : JE F b ss1 (pI i) ss2) (hs : PlainIx b) (hj : ixN Rs.length i = some j) (h : Rs[j]? = some R) (hK : ∀ i, (F i).K = K := by intro _; rfl) : JE F (.Subscript a b pos) ss R ss2 := fun xs P0 H0 ow σ P H S Q k =>
  ⟨_, fun i => pe_ix (r := rIxT K) (hK i ▸ ix_tup) (xe i) (xe i) hs, bin2 ha hb (rv_ixT hj h) S k⟩
theorem je_ixL {Rs : List Pr} {i : Int} {j : Nat} (ha : JE F a ss (pL Rs) ss1) (hb : JE F b ss1 (pI i) ss2) (hs : PlainIx b) (hj : ixN Rs.length i = some j) (h : Rs[j]? = some R) (hK : ∀ i, (F i).K = K := by intro _; rfl) : JE F (.Subscript a b pos) ss R ss2 := fun xs P0 H0 ow σ P H S Q k =>
  ⟨_, fun i => pe_ix (r := rIxL K) (hK i ▸ ix_list) (xe i) (xe i) hs, bin2 ha hb (rv_ixL hj h) S k⟩
/-- a comparison -/
theorem je_cmp {op : CmpOp} {r : R2} (ho : ∀ i, OpR (F i) (compareOp op) r) (hr : RVr r Ra Rb R) (ha : JE F a ss Ra ss1) (hb : JE F b ss1 Rb ss2) (hm : behindInMarks op b = false) : JE F (.Compare a [op] [b] pos) ss R ss2 := fun xs P0 H0 ow σ P H S Q k =>
  ⟨_, fun i => pe_cmpR (ho i) (xe i) (xe i) hm, bin2 ha hb hr S k⟩
theorem jt_cmp {op : CmpOp} {r : R2} {q : Bool} (ho : ∀ i, OpR (F i) (compareOp op) r) (hr : RVr r Ra Rb (pB q)) (ha : JE F a ss Ra ss1) (hb : JE F b ss1 Rb ss2) (hm : behindInMarks op b = false) : JT F (.Compare a [op] [b] pos) ss q ss2 := fun xs P0 H0 ow σ P H S Q k =>
  ⟨_, fun i => pt_cmpR (ho i) (xe i) (xe i) hm, bin2 ha hb hr S fun v P2 H2 S2 e r => ⟨q, r, k P2 H2 S2 e⟩⟩
/-- a test by its value -/
theorem jt_val {e : Expr} {q : Bool} (h : JE F e ss (pB q) ss1) (he : ∀ i whole, isTrue e (F i).env whole = (do let v ← whole; standAt e.pos; holding [v] (truthy v)) := by intro _ _; rfl) : JT F e ss q ss1 := fun xs P0 H0 ow σ P H S Q k =>
  ⟨_, fun i => pt_val (xe i) (he i), h _ _ _ _ _ _ _ S _ fun v P2 H2 S2 e r => ⟨q, r, k P2 H2 S2 e⟩⟩
theorem jt_not {q : Bool} (h : JT F a ss q ss1) : JT F (.UnaryOp .Not a pos) ss (!q) ss1 := fun xs P0 H0 ow σ P H S Q k =>
  ⟨_, fun i => pt_not (xt i), h _ _ _ _ _ _ _ S _ fun P2 H2 S2 e => k P2 H2 S2 e⟩
theorem jt_w {q : Bool} (h : JW F a ss q ss1) : JT F a ss q ss1 := fun xs P0 H0 ow σ P H S Q k =>
  ⟨_, fun i => (xw i).pt, h _ _ _ _ _ _ _ S _ k⟩
variable {rest : List Expr}
theorem jw_and1 {q : Bool} (h : JT F a ss q ss1) : JW F (.BoolOp .And [a] pos) ss q ss1 := fun xs P0 H0 ow σ P H S Q k => ⟨_, fun i => pw_and1 (xt i), h _ _ _ _ _ _ _ S _ k⟩
theorem jw_or1 {q : Bool} (h : JT F a ss q ss1) : JW F (.BoolOp .Or [a] pos) ss q ss1 := fun xs P0 H0 ow σ P H S Q k => ⟨_, fun i => pw_or1 (xt i), h _ _ _ _ _ _ _ S _ k⟩
theorem jw_and {q q' : Bool} (h : JT F a ss q ss) (g : q = true → JW F (.BoolOp .And (b :: rest) pos) ss q' ss) : JW F (.BoolOp .And (a :: b :: rest) pos) ss (q && q') ss := fun xs P0 H0 ow σ P H S Q k =>
  ⟨_, fun i => pw_and (xt i) (xw i), h _ _ _ _ _ _ _ S _ fun P2 H2 S2 e => by
    cases q with
    | true => exact iteT (g rfl _ _ _ _ _ _ _ S2 _ fun P3 H3 S3 e3 => by simpa using k P3 H3 S3 (e.trans e3))
    | false => exact iteF (by simpa using k P2 H2 S2 e)⟩
theorem jw_or {q q' : Bool} (h : JT F a ss q ss) (g : q = false → JW F (.BoolOp .Or (b :: rest) pos) ss q' ss) : JW F (.BoolOp .Or (a :: b :: rest) pos) ss (q || q') ss := fun xs P0 H0 ow σ P H S Q k =>
  ⟨_, fun i => pw_or (xt i) (xw i), h _ _ _ _ _ _ _ S _ fun P2 H2 S2 e => by
    cases q with
    | false => exact iteF (g rfl _ _ _ _ _ _ _ S2 _ fun P3 H3 S3 e3 => by simpa using k P3 H3 S3 (e.trans e3))
    | true => exact iteT (by simpa using k P2 H2 S2 e)⟩
/-- and, or as values of bools -/
theorem je_one {op : BoolOp} (h : JE F a ss R ss1) : JE F (.BoolOp op [a] pos) ss R ss1 := fun xs P0 H0 ow σ P H S Q k => ⟨_, fun i => pe_one (xe i), h _ _ _ _ _ _ _ S _ k⟩
theorem je_and {q q' : Bool} (h : JE F a ss (pB q) ss) (g : q = true → JE F (.BoolOp .And (b :: rest) pos) ss (pB q') ss) : JE F (.BoolOp .And (a :: b :: rest) pos) ss (pB (q && q')) ss := fun xs P0 H0 ow σ P H S Q k =>
  ⟨_, fun i => pe_and (xe i) (xe i), h _ _ _ _ _ _ _ S _ fun v P2 H2 S2 e r => ⟨q, r, by
    cases q with
    | true => exact iteT (g rfl _ _ _ _ _ _ _ S2 _ fun v P3 H3 S3 e3 r3 => k v P3 H3 S3 (e.trans e3) (by simpa using r3))
    | false => exact iteF (k _ P2 H2 S2 e rfl)⟩⟩
theorem je_or {q q' : Bool} (h : JE F a ss (pB q) ss) (g : q = false → JE F (.BoolOp .Or (b :: rest) pos) ss (pB q') ss) : JE F (.BoolOp .Or (a :: b :: rest) pos) ss (pB (q || q')) ss := fun xs P0 H0 ow σ P H S Q k =>
  ⟨_, fun i => pe_or (xe i) (xe i), h _ _ _ _ _ _ _ S _ fun v P2 H2 S2 e r => ⟨q, r, by
    cases q with
    | false => exact iteF (g rfl _ _ _ _ _ _ _ S2 _ fun v P3 H3 S3 e3 r3 => k v P3 H3 S3 (e.trans e3) (by simpa using r3))
    | true => exact iteT (k _ P2 H2 S2 e rfl)⟩⟩
theorem je_not {q : Bool} (h : JE F a ss (pB q) ss1) : JE F (.UnaryOp .Not a pos) ss (pB (!q)) ss1 := fun xs P0 H0 ow σ P H S Q k =>
  ⟨_, fun i => pe_not (xe i), h _ _ _ _ _ _ _ S _ fun v P2 H2 S2 e r => ⟨q, r, k _ P2 H2 S2 e rfl⟩⟩
theorem je_neg {i : Int} (h : JE F a ss (pI i) ss1) : JE F (.UnaryOp .USub a pos) ss (pI (-i)) ss1 := fun xs P0 H0 ow σ P H S Q k =>
  ⟨_, fun i => pe_un un_neg (xe i), h _ _ _ _ _ _ _ S _ fun v P2 H2 S2 e r => ⟨i, r, k _ P2 H2 S2 e rfl⟩⟩
theorem je_ifS {q : Bool} (h : JT F c ss q ss1) (h1 : q = true → JE F a ss1 R ss2) (h2 : q = false → JE F b ss1 R ss2) : JE F (.IfExp c a b pos) ss R ss2 := fun xs P0 H0 ow σ P H S Q k =>
  ⟨_, fun i => pe_ifExp (xt i) (xe i) (xe i), h _ _ _ _ _ _ _ S _ fun P2 H2 S2 e => by
    cases q with
    | true => exact iteT (h1 rfl _ _ _ _ _ _ _ S2 _ fun v P3 H3 S3 e3 r => k v P3 H3 S3 (e.trans e3) r)
    | false => exact iteF (h2 rfl _ _ _ _ _ _ _ S2 _ fun v P3 H3 S3 e3 r => k v P3 H3 S3 (e.trans e3) r)⟩
theorem je_if {q : Bool} (h : JT F c ss q ss1) (h1 : q = true → JE F a ss1 R ss1) (h2 : q = false → JE F b ss1 R ss1) : JE F (.IfExp c a b pos) ss R ss1 := je_ifS h h1 h2
/-- the predicate may be told in another way -/
theorem JE.is {e : Expr} (h : JE F e ss R ss1) (q : R = Ra) : JE F e ss Ra ss1 := q ▸ h
theorem JE.to {e : Expr} (h : JE F e ss R ss1) (q : ∀ P v, R.p P v → Ra.p P v) : JE F e ss Ra ss1 := fun xs P0 H0 ow σ P H S Q k => h _ _ _ _ _ _ _ S _ fun v P2 H2 S2 e r => k v P2 H2 S2 e (q _ _ r)
theorem JT.is {e : Expr} {q q' : Bool} (h : JT F e ss q ss1) (w : q = q') : JT F e ss q' ss1 := w ▸ h
/-! ### arguments, displays -/
variable {es : List Expr} {Rs : List Pr}
theorem ja_nil : JA F [] ss [] ss := fun xs P0 H0 ow σ P H S Q k => ⟨_, fun _ => pa_nil, k [] P H S (Same.refl _) .nil⟩
theorem ja_cons {e : Expr} (h : JE F e ss R ss1) (g : JA F es ss1 Rs ss2) (hs : ∀ i, starEach (e :: es) (F i).env = (false, eval e (F i).env) :: starEach es (F i).env := by intro _; rfl) : JA F (e :: es) ss (R :: Rs) ss2 := fun xs P0 H0 ow σ P H S Q k =>
  ⟨_, fun i => pa_cons (xe i) (xa i) (hs i), h _ _ _ _ _ _ _ S _ fun v P2 H2 S2 e2 r2 => g _ _ _ _ _ _ _ S2 _ fun vs P3 H3 S3 e3 r3 => k _ P3 H3 S3 (e2.trans e3) (.cons (R.up e3 r2) r3)⟩
theorem le_line {n : Nat} (h : n ≤ 100000) : n ≤ sizeLine := Nat.le_trans h (by decide)
theorem je_tup (K : PySem.W.Frag) {x1 : Nat} (h : JA F es ss Rs ss1) (hz : Rs.length ≤ sizeLine := by exact le_line (by simp)) : JE F (.Tuple es x1 pos) ss (pT K Rs) ss1 := fun xs P0 H0 ow σ P H S Q k =>
  ⟨_, fun i => pe_tup (xa i), h _ _ _ _ _ _ _ S _ fun vs P2 H2 S2 e2 r2 => ⟨by rw [r2.len]; exact hz, fun p hp => by
    have g := Gr.new S2.ld hp (.tup vs)
    exact k _ _ _ (S2.grow g) (e2.trans g.p) ⟨p, vs, rfl, upd_same, r2.up g.p, by rw [r2.len]; exact hz⟩⟩⟩
theorem jf_lst (h : JA F es ss Rs ss1) (hz : Rs.length ≤ sizeLine := by exact le_line (by simp)) : JF F (.List es pos) ss Rs ss1 := fun xs P0 H0 ow σ P H S Q k =>
  ⟨_, fun i => pe_lst (xa i), h _ _ _ _ _ _ _ S.here _ fun vs P2 H2 S2 e2 r2 => ⟨by rw [r2.len]; exact hz, fun p hp => by
    have g := Gr.junk S2.ld hp (.lst vs)
    exact k p vs P2 _ (S.back (S2.grow g) fun a ha => .inl ha) e2 (S2.gone hp) (S2.ld.none hp) upd_same r2⟩⟩
/-- a new list is never changed any more -/
theorem JF.je {e : Expr} (h : JF F e ss Rs ss1) : JE F e ss (pL Rs) ss1 := fun xs P0 H0 ow σ P H S Q k =>
  h _ _ _ _ _ _ _ S.here _ fun l vs P2 H2 S2 e2 n np hl r2 => by
    have no : l ∉ ow := fun z => (S.ows l z).2.1 n
    have S3 := S2.freeze n no no np hl
    exact k _ _ H2 (S.back S3 fun a ha => .inl ha) (e2.trans (same_upd np)) ⟨l, vs, rfl, upd_same, r2.up (same_upd np)⟩
end
end Ly
namespace Ly
open PySem L2
/-! ### targets -/
def Dif (js : List Nat) (σ σ' : St) : Prop := σ'.length = σ.length ∧ ∀ i, i ∉ js → σ'[i]? = σ[i]?
theorem Dif.set {σ : St} {j : Nat} {v : Option V} : Dif [j] σ (σ.set j v) := ⟨by simp, fun i hi => List.getElem?_set_ne (fun e => hi (by simp [e]))⟩
theorem Dif.trans {js ks : List Nat} {σ σ1 σ2 : St} (a : Dif js σ σ1) (b : Dif ks σ1 σ2) : Dif (js ++ ks) σ σ2 :=
  ⟨b.1.trans a.1, fun i hi => (b.2 i fun z => hi (List.mem_append_right _ z)).trans (a.2 i fun z => hi (List.mem_append_left _ z))⟩
theorem wipe_at {σ : St} {i : Nat} : ∀ vs : List Nat, (wipe σ vs)[i]? = if i ∈ vs ∧ i < σ.length then some none else σ[i]?
  | [] => by simp [wipe]
  | v :: vs => by
    have ih := wipe_at (σ := σ) (i := i) vs
    unfold wipe
    by_cases hv : v = i
    · subst hv
      by_cases hl : v < σ.length
      · rw [List.getElem?_set_self (by rw [wipe_length]; exact hl), if_pos ⟨by simp, hl⟩]
      · rw [List.getElem?_eq_none (by rw [List.length_set, wipe_length]; omega), if_neg (fun z => hl z.2), List.getElem?_eq_none (by omega)]
    · rw [List.getElem?_set_ne hv, ih]
      have e : (i ∈ v :: vs ∧ i < σ.length) ↔ (i ∈ vs ∧ i < σ.length) := by
        simp only [List.mem_cons]
        exact ⟨fun ⟨a, b⟩ => ⟨a.elim (fun z => absurd z.symm hv) id, b⟩, fun ⟨a, b⟩ => ⟨.inr a, b⟩⟩
      simp only [e]
theorem wipe_dif {σ σ' : St} {js vs : List Nat} (d : Dif js σ σ') (h : ∀ j ∈ js, j ∈ vs) : wipe σ' vs = wipe σ vs := by
  refine List.ext_getElem? fun i => ?_
  rw [wipe_at, wipe_at, d.1]
  by_cases c : i ∈ vs ∧ i < σ.length
  · rw [if_pos c, if_pos c]
  · rw [if_neg c, if_neg c]
    by_cases q : i ∈ js
    · have : σ.length ≤ i := by
        by_cases z : i < σ.length
        · exact absurd ⟨h i q, z⟩ c
        · omega
      rw [List.getElem?_eq_none this, List.getElem?_eq_none (by rw [d.1]; exact this)]
    · exact d.2 i q
theorem wipe_wipe (σ : St) (vs : List Nat) : wipe (wipe σ vs) vs = wipe σ vs := by
  refine List.ext_getElem? fun i => ?_
  rw [wipe_at, wipe_at, wipe_length]
  by_cases c : i ∈ vs ∧ i < σ.length
  · rw [if_pos c, if_pos c]
  · rw [if_neg c]
def wipeS (ss : List Sl) : List Nat → List Sl
  | [] => ss
  | v :: vs => (wipeS ss vs).set v .un
theorem wipeS_length (ss : List Sl) : ∀ vs : List Nat, (wipeS ss vs).length = ss.length
  | [] => rfl
  | v :: vs => by unfold wipeS; rw [List.length_set, wipeS_length ss vs]
section
variable {ι : Type} (F : ι → Cx)
/-- the target takes a value of R: the slots at js change, the store becomes f of it -/
def JG (tg : Expr) (js : List Nat) (R : Pr) (f : List Sl → List Sl) : Prop :=
  ∀ (xs : List Addr) (P0 H0 : Hp) (ow : List Addr) (σ : St) (P H : Hp) (ss : List Sl), S8 xs P0 H0 ow σ P H ss → (∀ j ∈ js, j < ss.length) → ∀ (v : V), R.p P v → ∀ Q : St → Hp → Prop,
    (∀ ow' σ', Dif js σ σ' → S8 xs P0 H0 ow' σ' P H (f ss) → (∀ a ∈ ow', a ∈ ow) → (f ss).length = ss.length → Q σ' H) → XG F tg v σ H Q
/-- what an iterator yields: values of Rl, one after another, whatever happens to what the slots own -/
structure ItOk (J : It) (Rl : List Pr) (P2 : Hp) : Prop where
  go : ∀ i P' H', i < Rl.length → Ld P' H' → Same P2 P' → J.go i H'
  yl : ∀ i R P' H' x H'', Rl[i]? = some R → Ld P' H' → Same P2 P' → J.yld i H' x H'' → ∃ P'', Gr P' H' P'' H'' ∧ R.p P'' x
  st : ∀ P' H', Ld P' H' → Same P2 P' → J.stop Rl.length H'
def JI (tg iter : Expr) (ss : List Sl) (Rl : List Pr) (ss1 : List Sl) : Prop :=
  ∀ (xs : List Addr) (P0 H0 : Hp) (ow : List Addr) (σ : St) (P H : Hp), S8 xs P0 H0 ow σ P H ss → ∀ R : It → Hp → Prop,
    (∀ J P2 H2, S8 xs P0 H0 ow σ P2 H2 ss1 → Same P P2 → ItOk J Rl P2 → R J H2) → XI F tg iter σ H R
end
section
variable {xs : List Addr} {P0 H0 : Hp} {ow : List Addr} {σ : St} {P H : Hp} {ss : List Sl}
/-- as S8.set, what is owned is named -/
theorem S8.set' (S : S8 xs P0 H0 ow σ P H ss) {i : Nat} (h : i < ss.length) {R : Pr} {v : V} (r : R.p P v) : ∃ ow', S8 xs P0 H0 ow' (σ.set i (some v)) P H (ss.set i (.pr R)) ∧ ∀ a ∈ ow', a ∈ ow := by
  obtain ⟨_, fp, _, _, _, put⟩ := S.sl.focus (List.getElem?_eq_getElem h)
  obtain ⟨ow', g, m⟩ := put P H [] (some v) (.pr R) (Same.refl _) (fun _ _ _ => rfl) (.pr r) (fun a z => absurd z (by simp))
  have m' : ∀ a ∈ ow', a ∈ ow := fun a ha => (m a ha).elim (fun z => absurd z (by simp)) (·.1)
  exact ⟨ow', ⟨S.p0, S.ld, S.h0, S.nw, fun a ha => S.ows a (m' a ha), S.xh, g⟩, m'⟩
end
section
variable {ι : Type} {F : ι → Cx} {K : PySem.W.Frag} {R : Pr}
theorem jg_name (j : Nat) {x : Str} {p : Pos} (h : ∀ i, PG (F i) (.Name x p) (gName j)) : JG F (.Name x p) [j] R (fun ss => ss.set j (.pr R)) := fun xs P0 H0 ow σ P H ss S hj v r Q k => by
  obtain ⟨ow', S', m⟩ := S.set' (hj j (by simp)) r
  exact ⟨_, h, k ow' _ Dif.set S' m (by simp)⟩
theorem jg_tup2 {t1 t2 : Expr} {j1 j2 : List Nat} {R1 Rb : Pr} {f1 f2 : List Sl → List Sl} {kk : Nat} {pos : Pos} (h1 : JG F t1 j1 R1 f1) (h2 : JG F t2 j2 Rb f2) (hc : ∀ i, (F i).calm = true := by intro _; rfl)
    (s1 : ∀ i, (assignEach [t1, t2] (F i).env).map (·.2) = assign t1 (F i).env :: (assignEach [t2] (F i).env).map (·.2) := by intro _; rfl) (s2 : ∀ i, (assignEach [t2] (F i).env).map (·.2) = assign t2 (F i).env :: (assignEach [] (F i).env).map (·.2) := by intro _; rfl)
    (hn : ∀ i, (assignEach [t1, t2] (F i).env).length = 2 := by intro _; rfl) (hst : ∀ i, (assignEach [t1, t2] (F i).env).findIdx? (·.1) = none := by intro _; rfl) (hK : ∀ i, (F i).K = K := by intro _; rfl) :
    JG F (.Tuple [t1, t2] kk pos) (j1 ++ j2) (pT K [R1, Rb]) (fun ss => f2 (f1 ss)) := fun xs P0 H0 ow σ P H ss S hj v r Q k => by
  obtain ⟨a, ys, rfl, h3, h4, _⟩ := r
  cases h4 with
  | @cons _ u _ us q1 h4 =>
    cases h4 with
    | @cons _ w _ ws q2 h4 =>
      cases h4
      refine ⟨gTup K 2 (gCons (XG F t1) (gCons (XG F t2) gNil)), fun i => ?_, ?_⟩
      · have q := pg_tup (k := kk) (pos := pos) (hc i) (pgs_cons (xg i) (pgs_cons (xg i) pgs_nil (s2 i)) (s1 i)) (hn i) (hst i)
        rw [hK i] at q
        exact q
      · refine ⟨a, [u, w], rfl, h3.sq S.ld, rfl, u, [w], rfl, ?_⟩
        refine h1 xs P0 H0 ow σ P H ss S (fun j hj' => hj j (List.mem_append_left _ hj')) u q1 _ fun ow1 σ1 d1 S1 m1 l1 => ⟨w, [], rfl, ?_⟩
        refine h2 xs P0 H0 ow1 σ1 P H _ S1 (fun j hj' => by rw [l1]; exact hj j (List.mem_append_right _ hj')) w q2 _ fun ow2 σ2 d2 S2 m2 l2 => ⟨rfl, ?_⟩
        exact k ow2 σ2 (d1.trans d2) S2 (fun b hb => m1 b (m2 b hb)) (l2.trans l1)
/-! ### what is walked -/
variable {tg e : Expr} {ss ss1 : List Sl} {Rl : List Pr}
theorem ji_tup (h : JE F e ss (pT K Rl) ss1) (hK : ∀ i, (F i).K = K := by intro _; rfl) : JI F tg e ss Rl ss1 := fun xs P0 H0 ow σ P H S Rr k =>
  ⟨iTup K (XE F e), fun i => by have q := pi_tup (tg := tg) (xe (F := F) (e := e) i); rw [hK i] at q; exact q, h _ _ _ _ _ _ _ S _ fun v P2 H2 S2 e2 r => by
    obtain ⟨a, ys, rfl, h3, h4, h5⟩ := r
    refine ⟨a, rfl, ⟨ys, h3.sq S2.ld⟩, k _ P2 H2 S2 e2 ⟨fun i P' H' hi l s => ?_, fun i R P' H' x H'' hR l s y => ?_, fun P' H' l s => ⟨ys, (h3.up s).sq l, by rw [h4.len]; exact Nat.le_refl _⟩⟩⟩
    · have : i < ys.length := by rw [h4.len]; exact hi
      exact ⟨ys, ys[i], (h3.up s).sq l, List.getElem?_eq_getElem this⟩
    · obtain ⟨rfl, y⟩ := y
      obtain ⟨w, e1, r1⟩ := h4.at hR
      have := y ys ((h3.up s).sq l)
      rw [e1] at this
      cases this
      exact ⟨P', Gr.refl l, R.up s r1⟩⟩
theorem ji_list (h : JE F e ss (pL Rl) ss1) (hK : ∀ i, (F i).K = K := by intro _; rfl) : JI F tg e ss Rl ss1 := fun xs P0 H0 ow σ P H S Rr k =>
  ⟨iList K (XE F e), fun i => by have q := pi_list (tg := tg) (xe (F := F) (e := e) i); rw [hK i] at q; exact q, h _ _ _ _ _ _ _ S _ fun v P2 H2 S2 e2 r => by
    obtain ⟨a, ys, rfl, h3, h4⟩ := r
    have sq : ∀ {P' H' : Hp}, Ld P' H' → Same P2 P' → SqL K H' a ys := fun l s => .inl (l.rd (s _ _ h3))
    refine ⟨a, rfl, ⟨ys, sq S2.ld (Same.refl _)⟩, k _ P2 H2 S2 e2 ⟨fun i P' H' hi l s => ?_, fun i R P' H' x H'' hR l s y => ?_, fun P' H' l s => ⟨ys, sq l s, by rw [h4.len]; exact Nat.le_refl _⟩⟩⟩
    · have : i < ys.length := by rw [h4.len]; exact hi
      exact ⟨ys, ys[i], sq l s, List.getElem?_eq_getElem this⟩
    · obtain ⟨rfl, y⟩ := y
      obtain ⟨w, e1, r1⟩ := h4.at hR
      have := y ys (sq l s)
      rw [e1] at this
      cases this
      exact ⟨P', Gr.refl l, R.up s r1⟩⟩
def rngP (lo : Int) (n : Nat) : List Nat := List.range n
theorem it_range (lo : Int) (n : Nat) (P2 : Hp) : ItOk (Itr lo n) ((List.range n).map fun i : Nat => pI (lo + i)) P2 := by
  refine ⟨fun i P' H' hi _ _ => (show i < n by simpa using hi), fun i R P' H' x H'' hR l s y => ?_, fun P' H' _ _ => (show n ≤ _ by simp)⟩
  obtain ⟨rfl, rfl⟩ := y
  rw [List.getElem?_map] at hR
  have hi : i < n := by
    by_cases z : i < n
    · exact z
    · rw [List.getElem?_eq_none (by simpa using z)] at hR; cases hR
  rw [List.getElem?_range hi] at hR
  cases hR
  exact ⟨P', Gr.refl l, rfl⟩
theorem ji_range {a : Expr} {j : Int} {p pos : Pos} (h : JE F a ss (pI j) ss1) (h1 : -(2 ^ 62) ≤ j) (h2 : j < 2 ^ 62) (hg : ∀ i, Gl (F i) "range" := by intro _; rfl) (hm : ∀ i, (F i).mg "range" = none)
    (hs : ∀ i, starEach [a] (F i).env = [(false, eval a (F i).env)] := by intro _; rfl) : JI F tg (.Call (.Name "range" p) [a] [] pos) ss ((List.range j.toNat).map fun i : Nat => pI (0 + i)) ss1 := fun xs P0 H0 ow σ P H S Rr k =>
  ⟨_, fun i => pi_range1 (hg i) (hm i) (pa_cons (xe i) pa_nil (hs i)) (hs i), h _ _ _ _ _ _ _ S _ fun v P2 H2 S2 e2 r => ⟨j, by rw [show v = _ from r], h1, h2, k _ P2 H2 S2 e2 (it_range 0 j.toNat _)⟩⟩
/-- two ends of a range -/
theorem ji_range2 {a b : Expr} {lo hi : Int} {p pos : Pos} (h : JE F a ss (pI lo) ss1) {ss2 : List Sl} (h' : JE F b ss1 (pI hi) ss2) (hz : -(2 ^ 62) ≤ lo ∧ lo < 2 ^ 62 ∧ -(2 ^ 62) ≤ hi ∧ hi < 2 ^ 62) (hg : ∀ i, Gl (F i) "range" := by intro _; rfl) (hm : ∀ i, (F i).mg "range" = none)
    (hs : ∀ i, starEach [a, b] (F i).env = [(false, eval a (F i).env), (false, eval b (F i).env)] := by intro _; rfl) (hs2 : ∀ i, starEach [b] (F i).env = [(false, eval b (F i).env)] := by intro _; rfl) :
    JI F tg (.Call (.Name "range" p) [a, b] [] pos) ss ((List.range (hi - lo).toNat).map fun i : Nat => pI (lo + i)) ss2 := fun xs P0 H0 ow σ P H S Rr k =>
  ⟨_, fun i => pi_range2 (hg i) (hm i) (pa_cons (xe i) (pa_cons (xe i) pa_nil (hs2 i)) (by rw [hs i, hs2 i])) (hs i) (hs2 i), h _ _ _ _ _ _ _ S _ fun v P2 H2 S2 e2 r => h' _ _ _ _ _ _ _ S2 _ fun w P3 H3 S3 e3 r3 =>
    ⟨lo, hi, by rw [show v = _ from r, show w = _ from r3], hz, k _ P3 H3 S3 (e2.trans e3) (it_range lo (hi - lo).toNat _)⟩⟩
end
/-! ### statements -/
section
variable {X : Cx} {K : PySem.W.Frag} {xs : List Addr} {P0 H0 : Hp} {ow : List Addr} {σ : St} {P H : Hp} {ss ss1 : List Sl} {R : Pr} {D : Ends} {rest : List Stmt} {e : Expr} {pos : Pos}
theorem w_nil (h : D.nx σ H) : XS X [] D σ H := ⟨_, pss_nil, h⟩
theorem w_cons {st : Stmt} (h : X1 X st { D with nx := XS X rest D } σ H) : XS X (st :: rest) D σ H := ⟨_, pss_cons x1 Ly.xs, h⟩
theorem w_ret (S : S8 xs P0 H0 ow σ P H ss) (h : JE (C1 X) e ss R ss1) (k : ∀ v P H, S8 xs P0 H0 ow σ P H ss1 → R.p P v → D.rt v H) : XS X (.Return (some e) pos :: rest) D σ H :=
  w_cons ⟨_, ps_ret (xe (F := C1 X) ()), h _ _ _ _ _ _ _ S _ fun v P2 H2 S2 _ r => k v P2 H2 S2 r⟩
theorem w_asg (i : Nat) {x : Str} {p : Pos} (S : S8 xs P0 H0 ow σ P H ss) (h : JE (C1 X) e ss R ss1) (k : ∀ ow σ P H, S8 xs P0 H0 ow σ P H (ss1.set i (.pr R)) → XS X rest D σ H) (hN : X.N.Nodup) (hl : ∃ s, ss1[i]? = some s := by exact ⟨_, rfl⟩)
    (hi : X.N[i]? = some x := by rfl) (hx : Loc X.env.scope x := by first | exact .inl rfl | exact .inr rfl) (hs : swapsWith e (some (.Name x p)) pos.line X.env = pure false := by rfl) (hf : X.fn x = true ∨ X.env.scope.names.lookup x = some .local := by first | exact .inr rfl | exact .inl rfl) :
    XS X (.Assign [.Name x p] e pos :: rest) D σ H :=
  w_cons ⟨_, ps_set hN hi hx (xe (F := C1 X) ()) hs hf, h _ _ _ _ _ _ _ S _ fun v P2 H2 S2 _ r => by
    obtain ⟨ow', S3, _⟩ := S2.set' (let ⟨_, e⟩ := hl; (List.getElem?_eq_some_iff.mp e).1) r
    exact k ow' _ P2 H2 S3⟩
/-- a new list of the slot's own -/
theorem w_asgF (i : Nat) {x : Str} {p : Pos} {Rs : List Pr} (S : S8 xs P0 H0 ow σ P H ss) (h : JF (C1 X) e ss Rs ss1) (k : ∀ ow σ P H, S8 xs P0 H0 ow σ P H (ss1.set i (.ow (oL Rs))) → XS X rest D σ H) (hN : X.N.Nodup) (hl : ∃ s, ss1[i]? = some s := by exact ⟨_, rfl⟩)
    (hi : X.N[i]? = some x := by rfl) (hx : Loc X.env.scope x := by first | exact .inl rfl | exact .inr rfl) (hs : swapsWith e (some (.Name x p)) pos.line X.env = pure false := by rfl) (hf : X.fn x = true ∨ X.env.scope.names.lookup x = some .local := by first | exact .inr rfl | exact .inl rfl) :
    XS X (.Assign [.Name x p] e pos :: rest) D σ H :=
  w_cons ⟨_, ps_set hN hi hx (xe (F := C1 X) ()) hs hf, h _ _ _ _ _ _ _ S _ fun l vs P2 H2 S2 _ n np hl2 r => by
    obtain ⟨ow', S3⟩ := S2.own hl.choose_spec (O := oL Rs) (v := .ref l) (fp := [l]) ⟨l, vs, rfl, rfl, hl2, r⟩ (fun a ha => by
      have ha : a = l := by simpa using ha
      subst ha
      exact ⟨np, (by rw [hl2]; exact Option.some_ne_none _), S.gone n, fun z => (S.ows a z).2.1 n⟩)
    exact k ow' _ P2 H2 S3⟩
theorem w_if {c : Expr} {a b : List Stmt} {q : Bool} (S : S8 xs P0 H0 ow σ P H ss) (h : JT (C1 X) c ss q ss1) (h1 : q = true → ∀ P H, S8 xs P0 H0 ow σ P H ss1 → XS X a { D with nx := XS X rest D } σ H)
    (h2 : q = false → ∀ P H, S8 xs P0 H0 ow σ P H ss1 → XS X b { D with nx := XS X rest D } σ H) : XS X (.If c a b pos :: rest) D σ H :=
  w_cons (by
    cases q with
    | true => exact ⟨_, ps_if (xt (F := C1 X) ()) Ly.xs Ly.xs, h _ _ _ _ _ _ _ S _ fun P2 H2 S2 _ => iteT (h1 rfl P2 H2 S2)⟩
    | false => exact ⟨_, ps_if (xt (F := C1 X) ()) Ly.xs Ly.xs, h _ _ _ _ _ _ _ S _ fun P2 H2 S2 _ => iteF (h2 rfl P2 H2 S2)⟩)
/-- an expression as a statement, its value dropped -/
theorem w_expr (S : S8 xs P0 H0 ow σ P H ss) (h : JE (C1 X) e ss R ss1) (k : ∀ P H, S8 xs P0 H0 ow σ P H ss1 → XS X rest D σ H) (hs : swapsWith e none pos.line X.env = pure false := by rfl) : XS X (.Expr e pos :: rest) D σ H :=
  w_cons ⟨_, ps_expr (xe (F := C1 X) ()) hs, h _ _ _ _ _ _ _ S _ fun v P2 H2 S2 _ _ => k P2 H2 S2⟩
/-- what the def may change of its caller's objects is in another slot -/
def Away (xs : List Addr) (ss : List Sl) (i : Nat) : Prop := xs = [] ∨ ∃ (j : Nat) (O : Ow), i ≠ j ∧ ss[j]? = some (.ow O) ∧ ∀ (P H : Hp) (v : V) (fp : List Addr), O.ok P H v fp → ∀ a ∈ xs, a ∈ fp
/-- a slot's own list is never changed any more -/
theorem S8.still (S : S8 xs P0 H0 ow σ P H ss) {i : Nat} {Rs : List Pr} (h : ss[i]? = some (.ow (oL Rs))) (hx : Away xs ss i := by exact .inl rfl) : ∃ ow' P', S8 xs P0 H0 ow' σ P' H (ss.set i (.pr (pL Rs))) ∧ (∀ a ∈ ow', a ∈ ow) ∧ Same P P' := by
  obtain ⟨v, fp, e, q, sub, put⟩ := S.sl.focus h
  cases q with
  | @ow _ v _ r =>
    obtain ⟨l, vs, rfl, rfl, hl, rs⟩ := r
    have hlo := sub l (by simp)
    have np := (S.ows l hlo).1
    have nx : l ∉ xs := by
      rcases hx with rfl | ⟨j, O, hj, hO, hs⟩
      · simp
      · obtain ⟨ow1, g1, m1⟩ := put P H [] (some (.ref l)) .un (Same.refl _) (fun _ _ _ => rfl) .un (fun a z => absurd z (by simp))
        obtain ⟨u, f1, _, q1, sub1, _⟩ := g1.focus (i := j) (s := .ow O) (by rw [List.getElem?_set_ne hj]; exact hO)
        intro hm
        cases q1 with
        | ow r1 =>
          have := m1 l (sub1 l (hs _ _ _ _ r1 l hm))
          exact this.elim (fun z => absurd z (by simp)) (fun z => z.2 (by simp))
    have hn : H0 l = none := (S.ows l hlo).2.2.elim id fun z => absurd z nx
    have sm : Same P (upd P l (.lst vs)) := same_upd np
    obtain ⟨ow', g, m⟩ := put (upd P l (.lst vs)) H [] (some (.ref l)) (.pr (pL Rs)) sm (fun _ _ _ => rfl) (.pr ⟨l, vs, rfl, upd_same, rs.up sm⟩) (fun a z => absurd z (by simp))
    have m' : ∀ a ∈ ow', a ∈ ow ∧ a ≠ l := fun a ha => (m a ha).elim (fun z => absurd z (by simp)) (fun z => ⟨z.1, fun w => z.2 (by simp [w])⟩)
    have hσ : σ.set i (some (.ref l)) = σ := by
      refine List.ext_getElem? fun j => ?_
      by_cases hj : i = j
      · subst hj
        rw [List.getElem?_set_self (List.getElem?_eq_some_iff.mp e).1, e]
      · rw [List.getElem?_set_ne hj]
    rw [hσ] at g
    refine ⟨ow', _, ⟨S.p0.trans sm, fun b u eb => ?_, S.h0, fun b hb eb => ?_, fun a ha => ?_, S.xh, g⟩, fun a ha => (m' a ha).1, sm⟩
    · by_cases q : b = l
      · subst q
        rw [upd_same] at eb
        cases eb
        exact .inl hl
      · rw [upd_ne q] at eb
        exact S.ld b u eb
    · rw [upd_ne (fun z => hb (by rw [z]; exact hn))]
      exact S.nw b hb eb
    · rw [upd_ne (m' a ha).2]
      exact S.ows a (m' a ha).1
/-- xs.append(e), xs a slot's own list -/
theorem w_app (i : Nat) {o : Expr} {apos cpos : Pos} {Rs : List Pr} (S : S8 xs P0 H0 ow σ P H ss) (ho : ∀ j, PE (C1 X j) o (tVar i)) (h : JE (C1 X) e ss R ss1) (hs0 : ss[i]? = some (.ow (oL Rs)) := by rfl) (hs1 : ss1[i]? = some (.ow (oL Rs)) := by rfl)
    (hz : Rs.length < sizeLine) (k : ∀ ow P H, S8 xs P0 H0 ow σ P H (ss1.set i (.ow (oL (Rs ++ [R])))) → XS X rest D σ H)
    (hbase : attributeBase o "append" X.env (eval o X.env) = eval o X.env := by rfl) (hsw : swapsWith (.Call (.Attribute o "append" apos) [e] [] cpos) none pos.line X.env = pure false := by rfl)
    (hline : (apos.endLine == cpos.line) = true := by rfl) (hst : starEach [e] X.env = (false, eval e X.env) :: starEach [] X.env := by rfl) (hplain : (backTo cpos (starEach [] X.env)).any (·.1) = false := by rfl)
    (hfew : ((backTo cpos (starEach [e] X.env)).all (fun x => !x.1) && (backToKw cpos (keywordEach [] X.env)).all (fun x => x.1.isSome) && decide (([e] : List Expr).length + ([] : List Keyword).length + (if ([] : List Keyword).isEmpty then 0 else 1) < 30)) = true := by rfl) :
    XS X (.Expr (.Call (.Attribute o "append" apos) [e] [] cpos) pos :: rest) D σ H := by
  refine w_cons ⟨_, ps_expr (pe_bm PySem.F.plainAttrs_list PySem.F.slot_list_append PySem.F.type_list_append (fun pins s σ H x xs v us Q I rx rv h => mt_append pins s σ H x xs v us Q I rx rv h) (ho ()) (pa_cons (xe (F := C1 X) ()) pa_nil hst) hbase hfew hline hst hplain) hsw, ?_⟩
  obtain ⟨v, fp, ev, ⟨l, vs, rfl, rfl, hl, rs⟩, _, _⟩ := S.owned hs0
  refine ⟨_, ev, .inl ⟨rfl, vs, .inl (.inl hl)⟩, ?_⟩
  refine h _ _ _ _ _ _ _ S _ fun w P2 H2 S2 _ r => ?_
  obtain ⟨v', fp', ev', ⟨l', vs', rfl, rfl, hl', rs'⟩, _, put⟩ := S2.owned hs1
  rw [ev] at ev'
  have el : l = l' := by injection ev' with z; injection z with z; injection z
  subst el
  obtain ⟨ow', _, S3⟩ := put (upd H2 l (.lst (vs' ++ [w]))) (oL (Rs ++ [R])) (fun b hb => upd_ne (fun z => hb (by simp [z]))) (fun b hb => by
    have hb : b = l := by simpa using hb
    rw [hb, upd_same]
    exact fun z => by cases z) ⟨l, _, rfl, rfl, upd_same, rs'.app (.cons r .nil)⟩
  exact ⟨l, vs', w, rfl, rfl, hl', by rw [rs'.len]; exact hz, k ow' P2 _ S3⟩
end
end Ly
namespace Ly
open PySem L2
/-- the built-in names that the text leaves alone -/
structure Bt (mg : Str → Option Value) : Prop where
  len : mg "len" = none
  range : mg "range" = none
  min : mg "min" = none
  max : mg "max" = none
  abs : mg "abs" = none
  int : mg "int" = none
  str : mg "str" = none
  list : mg "list" = none
  tuple : mg "tuple" = none
  sorted : mg "sorted" = none
  set : mg "set" = none
  isinstance : mg "isinstance" = none
  repr : mg "repr" = none
  enumerate : mg "enumerate" = none
  zip : mg "zip" = none
  ValueError : mg "ValueError" = none
  super : mg "super" = none
/-! ### a loop -/
section
variable {X : Cx} {xs : List Addr} {P0 H0 : Hp} {ow : List Addr} {σ : St} {P H : Hp} {ss ss1 : List Sl} {D : Ends} {rest : List Stmt} {pos : Pos}
theorem w_for {α : Type} {tg iter : Expr} {body : List Stmt} {ys : List α} {r : α → Pr} {js : List Nat} {f : α → List Sl → List Sl} (S : S8 xs P0 H0 ow σ P H ss) (hi : JI (C1 X) tg iter ss (ys.map r) ss1) (hg : ∀ y, JG (C1 X) tg js (r y) (f y))
    (J : List α → List Sl) (h0 : Wk ss1 (J [])) (hj : ∀ l, ∀ j ∈ js, j < (J l).length)
    (hb : ∀ (xs' : List Addr) (P0' H0' : Hp), (∀ {ow : List Addr} {σ : St} {P H : Hp} {ss : List Sl}, S8 xs' P0' H0' ow σ P H ss → S8 xs P0 H0 ow σ P H ss) → ∀ (pre : List α) (y : α) (post : List α), ys = pre ++ y :: post →
      ∀ ow σ P H, S8 xs' P0' H0' ow σ P H (f y (J pre)) → XS X body { D with nx := At8 xs' P0' H0' (J (pre ++ [y])), ct := At8 xs' P0' H0' (J (pre ++ [y])), bk := XS X rest D } σ H)
    (hd : ∀ ow σ P H, S8 xs P0 H0 ow σ P H (J ys) → XS X rest D σ H)
    (hp : PassesOwn (model X.prog X.w) X.A X.env X.xe := by exact PassesOwn.never) (hc : X.calm = true := by rfl) (hs : ∀ x, foldedSetIterable iter X.env x = pure x := by intro _; rfl) : XS X (.For tg iter body [] pos :: rest) D σ H := by
  refine w_cons ⟨_, ps_for hp hc (xi (F := C1 X) ()) (xg (F := C1 X) ()) Ly.xs hs, ?_⟩
  refine hi _ _ _ _ _ _ _ S _ fun It P2 H2 S2 e2 ok => ?_
  have up : ∀ {ow' : List Addr} {σ' : St} {P' H' : Hp} {ss' : List Sl}, S8 ow P2 H2 ow' σ' P' H' ss' → S8 xs P0 H0 ow' σ' P' H' ss' := fun S' => S2.back S' fun a ha => (S'.ows a ha).2.2.elim .inr .inl
  obtain ⟨ow1, S3⟩ := S2.here.weak h0
  refine ⟨fun i m σ' H' => m = ys.length - i ∧ i ≤ ys.length ∧ At8 ow P2 H2 (J (ys.take i)) σ' H', ⟨ys.length, by simp, Nat.zero_le _, ⟨ow1, P2, by simpa using S3⟩⟩, ?_⟩
  rintro i m σ' H' ⟨rfl, hle, ow', P', S'⟩
  by_cases hlt : i < ys.length
  · have ey : ys[i]? = some ys[i] := List.getElem?_eq_getElem hlt
    have em : (ys.map r)[i]? = some (r ys[i]) := by rw [List.getElem?_map, ey]; rfl
    have ek : ys.take (i + 1) = ys.take i ++ [ys[i]] := by rw [List.take_add_one, ey]; rfl
    have es : ys = ys.take i ++ ys[i] :: ys.drop (i + 1) := by
      rw [← List.drop_eq_getElem_cons hlt, List.take_append_drop]
    refine .inr ⟨ok.go i P' H' (by simpa using hlt) S'.ld S'.p0, At8 ow P2 H2 (J (ys.take (i + 1))), fun σ2 H4 h4 => ⟨ys.length - (i + 1), by omega, rfl, by omega, h4⟩, fun x H4 y => ?_⟩
    obtain ⟨P4, g, rx⟩ := ok.yl i _ P' H' x H4 em S'.ld S'.p0 y
    refine hg _ _ _ _ _ _ _ _ _ (S'.grow g) (hj _) x rx _ fun ow5 σ5 _ S5 _ _ => ?_
    rw [ek]
    exact hb ow P2 H2 up (ys.take i) ys[i] (ys.drop (i + 1)) es ow5 σ5 P4 H4 S5
  · have e : i = ys.length := by omega
    subst e
    rw [List.take_length] at S'
    have st := ok.st P' H' S'.ld S'.p0
    rw [List.length_map] at st
    exact .inl ⟨st, hd ow' σ' P' H' (up S')⟩
end
/-! ### list comprehensions -/
section
variable {ι : Type} {F : ι → Cx}
/-- the blocks of a comprehension -/
abbrev FB (F : ι → Cx) (scope : Scope) : ι × Shared × Hp × Addr × List (Str × Addr) × List Addr → Cx := fun q => (F q.1).blk q.2.1 q.2.2.1 scope (compEnvC scope q.2.2.2.2.1 q.2.2.2.1 (F q.1).env) q.2.2.2.2.2
def XTs (F : ι → Cx) (es : List Expr) : TT := fun σ H Q => ∃ t, (∀ i, PTs (F i) es t) ∧ t σ H Q
theorem xts {es : List Expr} (i : ι) : PTs (F i) es (XTs F es) := ⟨fun pins s σ H Q I ⟨_, h, q⟩ => (h i).run pins s σ H Q I q⟩
def JTs (F : ι → Cx) (es : List Expr) (ss : List Sl) (b : Bool) (ss' : List Sl) : Prop :=
  ∀ (xs : List Addr) (P0 H0 : Hp) (ow : List Addr) (σ : St) (P H : Hp), S8 xs P0 H0 ow σ P H ss → ∀ Q : Bool → Hp → Prop, (∀ P2 H2, S8 xs P0 H0 ow σ P2 H2 ss' → Same P P2 → Q b H2) → XTs F es σ H Q
theorem jts_nil {ss : List Sl} : JTs F [] ss true ss := fun xs P0 H0 ow σ P H S Q k => ⟨_, fun _ => pts_nil, k P H S (Same.refl _)⟩
theorem jts_one {e : Expr} {ss ss1 : List Sl} {b : Bool} (h : JT F e ss b ss1) : JTs F [e] ss b ss1 := fun xs P0 H0 ow σ P H S Q k => ⟨_, fun i => pts_one (xt i), h _ _ _ _ _ _ _ S _ k⟩
theorem JTs.is {es : List Expr} {ss ss1 : List Sl} {b b' : Bool} (h : JTs F es ss b ss1) (e : b = b') : JTs F es ss b' ss1 := e ▸ h
/-- no slot owns anything -/
def noOw : List Sl → Bool
  | [] => true
  | .ow _ :: _ => false
  | _ :: r => noOw r
theorem noOw_nil {P H : Hp} {ow : List Addr} {σ : St} {ss : List Sl} (h : SlAll P H ow σ ss) : noOw ss = true → ow = [] := by
  induction h with
  | nil => exact fun _ => rfl
  | cons a _ _ ih =>
    intro q
    cases a with
    | un => rw [ih q]; rfl
    | pr _ => rw [ih q]; rfl
    | ow _ => exact absurd q (by simp [noOw])
theorem S8.pure {xs : List Addr} {P0 H0 : Hp} {ow : List Addr} {σ : St} {P H : Hp} {ss ss' : List Sl} (S : S8 xs P0 H0 ow σ P H ss) (w : Wk ss ss') (n : noOw ss' = true) : S8 [] P H [] σ P H ss' := by
  obtain ⟨ow', S'⟩ := S.here.weak w
  have e := noOw_nil S'.sl n
  subst e
  exact ⟨Same.refl _, S'.ld, fun _ _ _ e => e, fun _ _ e => e, fun a ha => absurd ha (by simp), fun a ha => absurd ha (by simp), S'.sl⟩
theorem wk_set : ∀ (ss : List Sl) (v : Nat), Wk ss (ss.set v .un)
  | [], _ => .nil
  | _ :: r, 0 => .drop (Wk.refl r)
  | _ :: r, v + 1 => .keep (wk_set r v)
theorem Wk.trans {a b c : List Sl} (h : Wk a b) : Wk b c → Wk a c := by
  intro g
  induction h generalizing c with
  | nil => exact g
  | keep _ ih => cases g with
    | keep g => exact .keep (ih g)
    | drop g => exact .drop (ih g)
  | drop _ ih => cases g with
    | keep g => exact .drop (ih g)
    | drop g => exact .drop (ih g)
theorem slAll_wipe {P H : Hp} {σ : St} {ss : List Sl} (h : SlAll P H [] σ ss) : ∀ vs : List Nat, SlAll P H [] (wipe σ vs) (wipeS ss vs)
  | [] => h
  | v :: vs => by
    have g := slAll_wipe h vs
    unfold wipe wipeS
    by_cases hv : v < (wipeS ss vs).length
    · obtain ⟨_, fp, _, _, _, put⟩ := g.focus (List.getElem?_eq_getElem hv)
      obtain ⟨ow', g', m⟩ := put P H [] none .un (Same.refl _) (fun _ _ _ => rfl) .un (fun a z => absurd z (by simp))
      have : ow' = [] := by
        cases ow' with
        | nil => rfl
        | cons a _ => exact ((m a (by simp)).elim (fun z => absurd z (by simp)) (fun z => absurd z.1 (by simp)))
      subst this
      exact g'
    · have e1 : (wipe σ vs).set v none = wipe σ vs := List.set_eq_of_length_le (by have := g.len; omega)
      have e2 : (wipeS ss vs).set v .un = wipeS ss vs := List.set_eq_of_length_le (by omega)
      rw [e1, e2]
      exact g
theorem jf_lc {α : Type} {elt tg iter : Expr} {ifs : List Expr} {scope : Scope} {pos : Pos} {ss ss1 : List Sl} (own : List (Str × Nat)) (ssE : List Sl) {ys : List α} {r : α → Pr} {js : List Nat} {f : α → List Sl → List Sl}
    (hi : JI F tg iter ss (ys.map r) ss1) (ok : ∀ i, BlkOk (F i).N (F i).env.scope scope own) (hw : Wk ss1 ssE) (hno : noOw ssE = true) (hg : ∀ y, JG (FB F scope) tg js (r y) (f y)) (hjs : ∀ j ∈ js, j ∈ own.map (·.2)) (hjl : ∀ j ∈ js, j < ssE.length)
    (b : α → Bool) (v : α → Pr) (ht : ∀ y, y ∈ ys → JTs (FB F scope) ifs (f y (wipeS ssE (own.map (·.2)))) (b y) (f y (wipeS ssE (own.map (·.2)))))
    (he : ∀ y, y ∈ ys → b y = true → JE (FB F scope) elt (f y (wipeS ssE (own.map (·.2)))) (v y) (f y (wipeS ssE (own.map (·.2))))) (hz : ys.length ≤ sizeLine) (hN : ∀ i, (F i).N.Nodup) (hc : ∀ i, (F i).calm = true := by intro _; rfl)
    (hs : ∀ i x, foldedSetIterable iter (F i).env x = pure x := by intro _ _; rfl) : JF F (.ListComp elt [⟨tg, iter, ifs, 0⟩] scope pos) ss ((ys.filter b).map v) ss1 := fun xs P0 H0 ow σ P H S Q k => by
  refine ⟨_, fun i => pe_lc (hc i) (hN i) (xi i) (ok i) (fun s H C cl fp => xg (F := FB F scope) (i, s, H, C, cl, fp)) (fun s H C cl fp => xts (F := FB F scope) (i, s, H, C, cl, fp)) (fun s H C cl fp => xe (F := FB F scope) (i, s, H, C, cl, fp)) (hs i), ?_⟩
  refine hi _ _ _ _ _ _ _ S.here _ fun It P2 H2 S2 e2 oki D hD => ?_
  -- the state of the walk: everything that stood at the start stands, D holds what is made so far
  have SE := S2.pure hw hno
  let Inv : Nat → Hp → Prop := fun i H' => ∃ P' vs, Gr P2 H2 P' H' ∧ P' D = none ∧ H' D = some (.lst vs) ∧ PL P' (((ys.take i).filter b).map v) vs
  have hlen : ∀ i, ((ys.take i).filter b).length ≤ i := fun i => Nat.le_trans (List.length_filter_le _ _) (by simp; omega)
  refine ⟨fun i m H' => m = ys.length - i ∧ i ≤ ys.length ∧ Inv i H', ⟨ys.length, by simp, Nat.zero_le _, P2, [], Gr.junk S2.ld hD _, S2.ld.none hD, upd_same, .nil⟩, ?_⟩
  rintro i m H' ⟨rfl, hle, P', vs, g, pd, hd, rs⟩
  have ext : ∀ a o, a ∉ ow → H2 a = some o → H' a = some o := fun a o _ e => g.h _ _ e
  by_cases hlt : i < ys.length
  · have ey : ys[i]? = some ys[i] := List.getElem?_eq_getElem hlt
    have em : (ys.map r)[i]? = some (r ys[i]) := by rw [List.getElem?_map, ey]; rfl
    have ek : ys.take (i + 1) = ys.take i ++ [ys[i]] := by rw [List.take_add_one, ey]; rfl
    refine .inr ⟨oki.go i P' H' (by simpa using hlt) g.l g.p, Inv (i + 1), fun H4 h4 => ⟨ys.length - (i + 1), by omega, rfl, by omega, h4⟩, fun x H4 y => ?_⟩
    obtain ⟨P4, g4, rx⟩ := oki.yl i _ P' H' x H4 em g.l g.p y
    have gg := g.trans g4
    have pd4 : P4 D = none := g4.n D (by rw [hd]; exact Option.some_ne_none _) pd
    have hd4 : H4 D = some (.lst vs) := g4.h _ _ hd
    -- the block's state
    have Sb : S8 [] P4 H4 [] (wipe σ (own.map (·.2))) P4 H4 (wipeS ssE (own.map (·.2))) :=
      ⟨Same.refl _, g4.l, fun _ _ _ e => e, fun _ _ e => e, fun a ha => absurd ha (by simp), fun a ha => absurd ha (by simp), slAll_wipe (SE.sl.grow gg.p fun a ha => absurd ha (by simp)) _⟩
    refine hg ys[i] _ _ _ _ _ _ _ _ Sb (fun j hj => by rw [wipeS_length]; exact hjl j hj) x rx _ fun ow5 σ5 d5 S5 m5 _ => ⟨?_, ?_⟩
    · rw [wipe_dif d5 hjs, wipe_wipe]
    · have hm : ys[i] ∈ ys := List.getElem_mem hlt
      have e5 : ow5 = [] := by
        cases ow5 with
        | nil => rfl
        | cons a _ => exact absurd (m5 a (by simp)) (by simp)
      subst e5
      refine ht ys[i] hm _ _ _ _ _ _ _ S5 _ fun P6 H6 S6 _ => ?_
      cases hb : b ys[i] with
      | false =>
        refine iteF ⟨P6, vs, gg.trans S6.gr, S6.gr.n D (by rw [hd4]; exact Option.some_ne_none _) pd4, S6.gr.h _ _ hd4, ?_⟩
        rw [ek, List.filter_append, List.filter_cons, hb]
        simpa using (rs.up g4.p).up S6.gr.p
      | true =>
        refine iteT (he ys[i] hm hb _ _ _ _ _ _ _ S6 _ fun w P7 H7 S7 e7 r7 => ⟨vs, S7.gr.h _ _ hd4, ?_, P7, vs ++ [w], ?_, ?_, upd_same, ?_⟩)
        · have e1 := rs.len
          have e2 := hlen i
          rw [List.length_map] at e1
          omega
        · have g7 := S7.gr
          have g27 := gg.trans g7
          have pd7 := g7.n D (by rw [hd4]; exact Option.some_ne_none _) pd4
          refine ⟨g27.p, fun a u ea => ?_, fun a o ea => ?_, g27.n⟩
          · have : a ≠ D := fun z => by rw [z, pd7] at ea; cases ea
            rw [upd_ne this]
            exact g27.l a u ea
          · have : a ≠ D := fun z => by rw [z, hD] at ea; cases ea
            rw [upd_ne this]
            exact g27.h _ _ ea
        · exact S7.gr.n D (by rw [hd4]; exact Option.some_ne_none _) pd4
        · rw [ek, List.filter_append, List.filter_cons, hb]
          simpa using ((rs.up g4.p).up S7.gr.p).app (.cons r7 .nil)
  · have e : i = ys.length := by omega
    subst e
    rw [List.take_length] at rs
    have st := oki.st P' H' g.l g.p
    rw [List.length_map] at st
    have S9 : S8 xs P0 H0 ow σ P' H' ss1 := S.back (S2.grow g) fun a ha => .inl ha
    exact .inl ⟨st, k D vs P' H' S9 (e2.trans g.p) (S2.gone hD) pd hd rs⟩
end
end Ly
namespace Ly
open PySem PySem.Spec PyProof.Rows L2
/-! ### defs: promises and calls -/
/-- what a def of the text promises: from arguments of (ar a), under pre a, a value of (res a), leaving all that stood -/
def spF {α : Type} (ar : α → List Pr) (pre : α → Prop) (res : α → Pr) : Sp := fun vs H Q _ => ∃ (P : Hp) (a : α), Ld P H ∧ pre a ∧ PL P (ar a) vs ∧ ∀ v P2 H2, Gr P H P2 H2 → (res a).p P2 v → Q v H2
structure Cal (P : Program) (w : World) (K : PySem.W.Frag) (mg : Str → Option Value) (base : Heap) (A : Around) (x : Str) (sp : Sp) : Prop where
  ex : ∃ (CX : CXT) (k : Nat) (f : Addr) (fd : FuncData) (ps : List Str), FnOk P w K mg base CX k f fd ps sp ∧ Room k A ∧ mg x = some (.ref f) ∧ PySem.W.keepIn K (.ref f) = true ∧ Binds K fd ps [] ∧ ∀ X : Cx, X.prog = P → X.w = w → Passes CX X E0
abbrev CalX (X : Cx) (x : Str) (sp : Sp) : Prop := Cal X.prog X.w X.K X.mg X.base X.A x sp
section
variable {ι : Type} {F : ι → Cx} {K : PySem.W.Frag} {ss ss1 ss2 : List Sl} {R : Pr} {Rs : List Pr} {x : Str} {sp : Sp} {p pos : Pos} {e : Expr} {es : List Expr}
theorem je_call0 (c : ∀ i, CalX (F i) x sp) (ha : JA F (e :: es) ss Rs ss1) (hsp : ∀ (P H : Hp) (vs : List V) (Q : VK), Ld P H → PL P Rs vs → (∀ v P2 H2, Gr P H P2 H2 → R.p P2 v → Q v H2) → sp vs H Q E0)
    (hg : ∀ i, Gl (F i) x := by intro _; rfl) (hdb : (x == ("__debug__" : Str)) = false := by decide) (he : ∀ i, starEach (e :: es) (F i).env = (false, eval e (F i).env) :: starEach es (F i).env := by intro _; rfl)
    (hpl : ∀ i, (backTo pos (starEach es (F i).env)).any (·.1) = false := by intro _; rfl) : JE F (.Call (.Name x p) (e :: es) [] pos) ss R ss1 := fun xs P0 H0 ow σ P H S Q k =>
  ⟨tCall sp [] E0 (XA F (e :: es)), fun i => by
    obtain ⟨CX, kk, f, fd, ps, G, hr, hm, hk, hb, hx⟩ := (c i).ex
    exact pe_call G hr (hg i) hm hk hb .nil (hx _ rfl rfl) (xa i) hdb (he i) (hpl i), ha _ _ _ _ _ _ _ S _ fun vs P2 H2 S2 e2 r2 => by
    rw [List.append_nil]
    exact hsp P2 H2 vs Q S2.ld r2 fun v P3 H3 g r => k v P3 H3 (S2.grow g) (e2.trans g.p) r⟩
theorem je_call {α : Type} {ar : α → List Pr} {pre : α → Prop} {res : α → Pr} (c : ∀ i, CalX (F i) x (spF ar pre res)) (a : α) (ha : JA F (e :: es) ss Rs ss1) (hp : pre a) (hA : ar a = Rs := by rfl) (hR : res a = R := by rfl)
    (hg : ∀ i, Gl (F i) x := by intro _; rfl) (hdb : (x == ("__debug__" : Str)) = false := by decide) (he : ∀ i, starEach (e :: es) (F i).env = (false, eval e (F i).env) :: starEach es (F i).env := by intro _; rfl)
    (hpl : ∀ i, (backTo pos (starEach es (F i).env)).any (·.1) = false := by intro _; rfl) : JE F (.Call (.Name x p) (e :: es) [] pos) ss R ss1 :=
  je_call0 c ha (fun P H vs Q l r k => ⟨P, a, l, hp, hA ▸ r, hR ▸ k⟩) hg hdb he hpl
theorem Cal.blk {scope : Scope} (c : ∀ i, CalX (F i) x sp) : ∀ i, CalX (FB F scope i) x sp := fun i => c i.1
end
/-- the store at a def's entry -/
def ini (Rs : List Pr) (n : Nat) : List Sl := Rs.map .pr ++ List.replicate n .un
theorem ini_all {P H : Hp} : ∀ {Rs : List Pr} {vs : List V} (n : Nat), PL P Rs vs → SlAll P H [] (vs.map some ++ List.replicate n none) (ini Rs n)
  | _, _, n, .nil => by
    induction n with
    | zero => exact .nil
    | succ n ih => exact .cons (fp := []) .un (fun a z => absurd z (by simp)) ih
  | _, _, n, .cons r t => .cons (fp := []) (.pr r) (fun a z => absurd z (by simp)) (ini_all n t)
section
variable {P : Program} {w : World} {K : PySem.W.Frag} {mg : Str → Option Value} {base : Heap} {x qual : Str} {st : Stmt} {f : Addr} {fd : FuncData} {N ps : List Str}
/-- a def keeps its promise, if its body does from the store at the entry -/
theorem fnF {α : Type} {ar : α → List Pr} {pre : α → Prop} {res : α → Pr} (k : Nat) (F : Fun K x qual st f fd) (S : FnScope N ps (defScope st)) (hl : ∀ a, (ar a).length = ps.length)
    (hb : ∀ (cdv : Value) (A : Around) (outer : List Env) (s : Shared) (H0 : Hp) (Q : VK) (E : XK), Room k (A.deeper (envOfC qual (defScope st) s.heap.objs.size f cdv)) → ∀ (P0 : Hp) (a : α) (σ : L2.St), pre a → S8 [] P0 H0 [] σ P0 H0 (ini (ar a) (N.length - ps.length)) →
      (∀ v P2 H2, Gr P0 H0 P2 H2 → (res a).p P2 v → Q v H2) → XS (cxOf CX0 P w K mg base N qual (defScope st) f cdv A outer s H0 E).nox (defBody st) { nx := fun _ H' => Q .non H', rt := Q } σ H0) :
    FnOk P w K mg base CX0 (k + 1) f fd ps (spF ar pre res) := by
  refine F.ok S (fun vs H Q E h => ?_) (fun cdv A outer s H vs Q E hr h => ?_)
  · obtain ⟨P0, a, _, _, r, _⟩ := h
    rw [r.len, hl]
  · obtain ⟨P0, a, ld, hp, r, q⟩ := h
    have e : vs.length = ps.length := by rw [r.len, hl]
    have S0 : S8 [] P0 H [] (L2.start N vs) P0 H (ini (ar a) (N.length - ps.length)) := by
      refine ⟨Same.refl _, ld, fun _ _ _ e => e, fun _ _ e => e, fun a ha => absurd ha (by simp), fun a ha => absurd ha (by simp), ?_⟩
      unfold L2.start
      rw [e]
      exact ini_all _ r
    exact ⟨_, Ly.xs, hb cdv A outer s H Q E hr P0 a _ hp S0 q⟩
/-- as a callee -/
theorem Cal.of {A : Around} {sp : Sp} {k : Nat} (G : FnOk P w K mg base CX0 k f fd ps sp) (F : Fun K qual qual st f fd) (hr : Room k A) (hm : mg x = some (.ref f)) (hb : Binds K fd ps []) : Cal P w K mg base A x sp :=
  ⟨CX0, k, f, fd, ps, G, hr, hm, F.kp, hb, fun _ _ _ => pass0⟩
end
/-! ### built-in calls -/
section
variable {ι : Type} {F : ι → Cx} {K : PySem.W.Frag} {ss ss1 ss2 : List Sl} {R Ra Rb : Pr} {Rs : List Pr} {x : Str} {p pos : Pos} {e e2 : Expr} {es : List Expr} {id : String}
def RCr (r : List V → Hp → VK → Prop) (Rs : List Pr) (R : Pr) : Prop := ∀ (P H : Hp) (vs : List V) (Q : VK), Ld P H → PL P Rs vs → (∀ w P2 H2, Gr P H P2 H2 → R.p P2 w → Q w H2) → r vs H Q
theorem je_cb {r : List V → Hp → VK → Prop} (hc : ∀ i, CallR (F i) (.builtin id) r) (hr : RCr r Rs R) (ha : JA F (e :: es) ss Rs ss1) (hm : ∀ i, (F i).mg x = none) (hv : bootBuiltins x = some (.builtin id)) (hg : ∀ i, Gl (F i) x := by intro _; rfl)
    (hn : x ≠ "__name__" := by decide) (hdb : (x == ("__debug__" : Str)) = false := by decide) (he : ∀ i, starEach (e :: es) (F i).env = (false, eval e (F i).env) :: starEach es (F i).env := by intro _; rfl)
    (hpl : ∀ i, (backTo pos (starEach es (F i).env)).any (·.1) = false := by intro _; rfl) : JE F (.Call (.Name x p) (e :: es) [] pos) ss R ss1 := fun xs P0 H0 ow σ P H S Q k =>
  ⟨tCB r (XA F (e :: es)), fun i => pe_callB (hc i) (hg i) (hm i) hv (xa i) hn hdb (he i) (hpl i), ha _ _ _ _ _ _ _ S _ fun vs P2 H2 S2 e2 r2 => hr P2 H2 vs Q S2.ld r2 fun v P3 H3 g r => k v P3 H3 (S2.grow g) (e2.trans g.p) r⟩
theorem je_ct {r : List V → Hp → VK → Prop} {T : String} (hc : ∀ i, CallR (F i) (.type T) r) (hr : RCr r Rs R) (ha : JA F (e :: es) ss Rs ss1) (hm : ∀ i, (F i).mg x = none) (hv : bootBuiltins x = some (.type T)) (hg : ∀ i, Gl (F i) x := by intro _; rfl)
    (hn : x ≠ "__name__" := by decide) (hdb : (x == ("__debug__" : Str)) = false := by decide) (he : ∀ i, starEach (e :: es) (F i).env = (false, eval e (F i).env) :: starEach es (F i).env := by intro _; rfl)
    (hpl : ∀ i, (backTo pos (starEach es (F i).env)).any (·.1) = false := by intro _; rfl) : JE F (.Call (.Name x p) (e :: es) [] pos) ss R ss1 := fun xs P0 H0 ow σ P H S Q k =>
  ⟨tCB r (XA F (e :: es)), fun i => pe_callTy (hc i) (hg i) (hm i) hv (xa i) hn hdb (he i) (hpl i), ha _ _ _ _ _ _ _ S _ fun vs P2 H2 S2 e2 r2 => hr P2 H2 vs Q S2.ld r2 fun v P3 H3 g r => k v P3 H3 (S2.grow g) (e2.trans g.p) r⟩
theorem pl1 {P : Hp} {R : Pr} {vs : List V} (h : PL P [R] vs) : ∃ v, vs = [v] ∧ R.p P v := by
  cases h with
  | cons r t => cases t; exact ⟨_, rfl, r⟩
theorem pl2 {P : Hp} {R R' : Pr} {vs : List V} (h : PL P [R, R'] vs) : ∃ v w, vs = [v, w] ∧ R.p P v ∧ R'.p P w := by
  cases h with
  | cons r t => cases t with
    | cons r' t => cases t; exact ⟨_, _, rfl, r, r'⟩
def rLen1 (K : PySem.W.Frag) : List V → Hp → VK → Prop := fun xs H Q => ∃ p ys, xs = [.ref p] ∧ (SqL K H p ys ∨ SqT K H p ys) ∧ Q (.int ys.length) H
theorem je_lenT (ha : JE F e ss (pT K Rs) ss1) (hm : ∀ i, (F i).mg "len" = none) (hg : ∀ i, Gl (F i) "len" := by intro _; rfl) (he : ∀ i, starEach [e] (F i).env = (false, eval e (F i).env) :: starEach [] (F i).env := by intro _; rfl)
    (hpl : ∀ i, (backTo pos (starEach [] (F i).env)).any (·.1) = false := by intro _; rfl) (hK : ∀ i, (F i).K = K := by intro _; rfl) : JE F (.Call (.Name "len" p) [e] [] pos) ss (pI (Rs.length : Int)) ss1 :=
  je_cb (r := rLen1 K) (fun i => hK i ▸ call_len_seq) (fun P H vs Q l r k => by
    obtain ⟨v, rfl, a, ys, rfl, h2, h3, _⟩ := pl1 r
    exact ⟨a, ys, rfl, .inr (h2.sq l), k _ P H (Gr.refl l) (by rw [h3.len]; rfl)⟩) (ja_cons ha ja_nil he) hm boot_len hg (by decide) (by decide) he hpl
theorem je_lenL (ha : JE F e ss (pL Rs) ss1) (hm : ∀ i, (F i).mg "len" = none) (hg : ∀ i, Gl (F i) "len" := by intro _; rfl) (he : ∀ i, starEach [e] (F i).env = (false, eval e (F i).env) :: starEach [] (F i).env := by intro _; rfl)
    (hpl : ∀ i, (backTo pos (starEach [] (F i).env)).any (·.1) = false := by intro _; rfl) (hK : ∀ i, (F i).K = K := by intro _; rfl) : JE F (.Call (.Name "len" p) [e] [] pos) ss (pI (Rs.length : Int)) ss1 :=
  je_cb (r := rLen1 K) (fun i => hK i ▸ call_len_seq) (fun P H vs Q l r k => by
    obtain ⟨v, rfl, a, ys, rfl, h2, h3⟩ := pl1 r
    exact ⟨a, ys, rfl, .inl (.inl (l.rd h2)), k _ P H (Gr.refl l) (by rw [h3.len]; rfl)⟩) (ja_cons ha ja_nil he) hm boot_len hg (by decide) (by decide) he hpl
theorem je_min2 {i j : Int} (ha : JE F e ss (pI i) ss1) (hb : JE F e2 ss1 (pI j) ss2) (hm : ∀ i, (F i).mg "min" = none) (hg : ∀ i, Gl (F i) "min" := by intro _; rfl) (hc : ∀ i, (F i).calm = true := by intro _; rfl)
    (he : ∀ i, starEach [e, e2] (F i).env = (false, eval e (F i).env) :: starEach [e2] (F i).env := by intro _; rfl) (he2 : ∀ i, starEach [e2] (F i).env = (false, eval e2 (F i).env) :: starEach [] (F i).env := by intro _; rfl)
    (hpl : ∀ i, (backTo pos (starEach [e2] (F i).env)).any (·.1) = false := by intro _; rfl) : JE F (.Call (.Name "min" p) [e, e2] [] pos) ss (pI (min i j)) ss2 :=
  je_cb (fun i => call_min2 (hc i)) (fun P H vs Q l r k => by
    obtain ⟨v, w, rfl, rfl, rfl⟩ := pl2 r
    refine ⟨i, j, rfl, k _ P H (Gr.refl l) ?_⟩
    show V.int _ = V.int _
    congr 1
    by_cases h : j < i
    · rw [if_pos h]; omega
    · rw [if_neg h]; omega) (ja_cons ha (ja_cons hb ja_nil he2) he) hm boot_min hg (by decide) (by decide) he hpl
theorem je_max2 {i j : Int} (ha : JE F e ss (pI i) ss1) (hb : JE F e2 ss1 (pI j) ss2) (hm : ∀ i, (F i).mg "max" = none) (hg : ∀ i, Gl (F i) "max" := by intro _; rfl) (hc : ∀ i, (F i).calm = true := by intro _; rfl)
    (he : ∀ i, starEach [e, e2] (F i).env = (false, eval e (F i).env) :: starEach [e2] (F i).env := by intro _; rfl) (he2 : ∀ i, starEach [e2] (F i).env = (false, eval e2 (F i).env) :: starEach [] (F i).env := by intro _; rfl)
    (hpl : ∀ i, (backTo pos (starEach [e2] (F i).env)).any (·.1) = false := by intro _; rfl) : JE F (.Call (.Name "max" p) [e, e2] [] pos) ss (pI (max i j)) ss2 :=
  je_cb (fun i => call_max2 (hc i)) (fun P H vs Q l r k => by
    obtain ⟨v, w, rfl, rfl, rfl⟩ := pl2 r
    refine ⟨i, j, rfl, k _ P H (Gr.refl l) ?_⟩
    show V.int _ = V.int _
    congr 1
    by_cases h : j > i
    · rw [if_pos h]; omega
    · rw [if_neg h]; omega) (ja_cons ha (ja_cons hb ja_nil he2) he) hm boot_max hg (by decide) (by decide) he hpl
theorem je_abs {i : Int} (ha : JE F e ss (pI i) ss1) (hm : ∀ i, (F i).mg "abs" = none) (hg : ∀ i, Gl (F i) "abs" := by intro _; rfl) (he : ∀ i, starEach [e] (F i).env = (false, eval e (F i).env) :: starEach [] (F i).env := by intro _; rfl)
    (hpl : ∀ i, (backTo pos (starEach [] (F i).env)).any (·.1) = false := by intro _; rfl) : JE F (.Call (.Name "abs" p) [e] [] pos) ss (pI (i.natAbs : Int)) ss1 :=
  je_cb (fun _ => call_abs) (fun P H vs Q l r k => by
    obtain ⟨v, rfl, rfl⟩ := pl1 r
    refine ⟨i, rfl, k _ P H (Gr.refl l) ?_⟩
    show V.int _ = V.int _
    congr 1
    by_cases h : i < 0
    · rw [if_pos h]; omega
    · rw [if_neg h]; omega) (ja_cons ha ja_nil he) hm (by decide +kernel) hg (by decide) (by decide) he hpl
theorem je_int {i : Int} (ha : JE F e ss (pI i) ss1) (hm : ∀ i, (F i).mg "int" = none) (hg : ∀ i, Gl (F i) "int" := by intro _; rfl) (he : ∀ i, starEach [e] (F i).env = (false, eval e (F i).env) :: starEach [] (F i).env := by intro _; rfl)
    (hpl : ∀ i, (backTo pos (starEach [] (F i).env)).any (·.1) = false := by intro _; rfl) : JE F (.Call (.Name "int" p) [e] [] pos) ss (pI i) ss1 :=
  je_ct (fun _ => call_int1) (fun P H vs Q l r k => by
    obtain ⟨v, rfl, rfl⟩ := pl1 r
    exact .inl ⟨i, rfl, k _ P H (Gr.refl l) rfl⟩) (ja_cons ha ja_nil he) hm (by decide +kernel) hg (by decide) (by decide) he hpl
/-- tuple(xs) -/
theorem je_tupleL (ha : JE F e ss (pL Rs) ss1) (hz : Rs.length ≤ sizeLine) (hm : ∀ i, (F i).mg "tuple" = none) (hg : ∀ i, Gl (F i) "tuple" := by intro _; rfl) (he : ∀ i, starEach [e] (F i).env = (false, eval e (F i).env) :: starEach [] (F i).env := by intro _; rfl)
    (hpl : ∀ i, (backTo pos (starEach [] (F i).env)).any (·.1) = false := by intro _; rfl) (hK : ∀ i, (F i).K = K := by intro _; rfl) : JE F (.Call (.Name "tuple" p) [e] [] pos) ss (pT K Rs) ss1 :=
  je_ct (r := fun xs H Q => ∃ p ys, xs = [.ref p] ∧ ((SqL K H p ys ∧ ∀ l, H l = none → Q (.ref l) (upd H l (.tup ys))) ∨ (SqT K H p ys ∧ Q (.ref p) H))) (fun i => hK i ▸ call_tuple_of) (fun P H vs Q l r k => by
    obtain ⟨v, rfl, a, ys, rfl, h2, h3⟩ := pl1 r
    refine ⟨a, ys, rfl, .inl ⟨.inl (l.rd h2), fun t ht => ?_⟩⟩
    have g := Gr.new l ht (.tup ys)
    exact k _ _ _ g ⟨t, ys, rfl, upd_same, h3.up g.p, by rw [h3.len]; exact hz⟩) (ja_cons ha ja_nil he) hm (by decide +kernel) hg (by decide) (by decide) he hpl
/-- list(xs) of a list or a tuple: a new list -/
theorem jf_list {Rs : List Pr} (ha : JE F e ss R ss1) (hR : ∀ (P H : Hp) (v : V), Ld P H → R.p P v → ∃ a ys, v = .ref a ∧ (SqL K H a ys ∨ SqT K H a ys) ∧ PL P Rs ys) (hm : ∀ i, (F i).mg "list" = none) (hg : ∀ i, Gl (F i) "list" := by intro _; rfl) (he : ∀ i, starEach [e] (F i).env = (false, eval e (F i).env) :: starEach [] (F i).env := by intro _; rfl)
    (hpl : ∀ i, (backTo pos (starEach [] (F i).env)).any (·.1) = false := by intro _; rfl) (hK : ∀ i, (F i).K = K := by intro _; rfl) : JF F (.Call (.Name "list" p) [e] [] pos) ss Rs ss1 := fun xs P0 H0 ow σ P H S Q k =>
  ⟨tCB (fun xs H Q => ∃ p ys, xs = [.ref p] ∧ (SqL K H p ys ∨ SqT K H p ys) ∧ ∀ l, H l = none → Q (.ref l) (upd H l (.lst ys))) (XA F [e]), fun i => pe_callTy (hK i ▸ call_list_of) (hg i) (hm i) (by decide +kernel) (xa i) (by decide) (by decide) (he i) (hpl i),
    ja_cons ha ja_nil he _ _ _ _ _ _ _ S.here _ fun vs P2 H2 S2 e2 r2 => by
      obtain ⟨v, rfl, r⟩ := pl1 r2
      obtain ⟨a, ys, rfl, h2, h3⟩ := hR P2 H2 v S2.ld r
      refine ⟨a, ys, rfl, h2, fun l hl => ?_⟩
      have g := Gr.junk S2.ld hl (.lst ys)
      exact k l ys P2 _ (S.back (S2.grow g) fun a ha => .inl ha) e2 (S2.gone hl) (S2.ld.none hl) upd_same h3⟩
theorem jf_listT {Rs : List Pr} (ha : JE F e ss (pT K Rs) ss1) (hm : ∀ i, (F i).mg "list" = none) (hg : ∀ i, Gl (F i) "list" := by intro _; rfl) (he : ∀ i, starEach [e] (F i).env = (false, eval e (F i).env) :: starEach [] (F i).env := by intro _; rfl)
    (hpl : ∀ i, (backTo pos (starEach [] (F i).env)).any (·.1) = false := by intro _; rfl) (hK : ∀ i, (F i).K = K := by intro _; rfl) : JF F (.Call (.Name "list" p) [e] [] pos) ss Rs ss1 :=
  jf_list ha (fun P H v l ⟨a, ys, h1, h2, h3, _⟩ => ⟨a, ys, h1, .inr (h2.sq l), h3⟩) hm hg he hpl hK
theorem jf_listL {Rs : List Pr} (ha : JE F e ss (pL Rs) ss1) (hm : ∀ i, (F i).mg "list" = none) (hg : ∀ i, Gl (F i) "list" := by intro _; rfl) (he : ∀ i, starEach [e] (F i).env = (false, eval e (F i).env) :: starEach [] (F i).env := by intro _; rfl)
    (hpl : ∀ i, (backTo pos (starEach [] (F i).env)).any (·.1) = false := by intro _; rfl) (hK : ∀ i, (F i).K = K := by intro _; rfl) : JF F (.Call (.Name "list" p) [e] [] pos) ss Rs ss1 :=
  jf_list ha (fun P H v l ⟨a, ys, h1, h2, h3⟩ => ⟨a, ys, h1, .inl (.inl (l.rd h2)), h3⟩) hm hg he hpl hK
/-! ### slices -/
def XO (F : ι → Cx) (e : Option Expr) : TO := fun σ H Q => ∃ t, (∀ i, PO (F i) e t) ∧ t σ H Q
def JO (F : ι → Cx) (e : Option Expr) (ss : List Sl) (o : Option Int) (ss' : List Sl) : Prop :=
  ∀ (xs : List Addr) (P0 H0 : Hp) (ow : List Addr) (σ : L2.St) (P H : Hp), S8 xs P0 H0 ow σ P H ss → ∀ Q : Option Int → Hp → Prop, (∀ P2 H2, S8 xs P0 H0 ow σ P2 H2 ss' → Same P P2 → Q o H2) → XO F e σ H Q
theorem xo {e : Option Expr} (i : ι) : PO (F i) e (XO F e) := ⟨fun pins s σ H Q I ⟨_, h, q⟩ => (h i).run pins s σ H Q I q⟩
theorem jo_no : JO F none ss none ss := fun xs P0 H0 ow σ P H S Q k => ⟨_, fun _ => po_none, k P H S (Same.refl _)⟩
theorem jo_e {i : Int} (h : JE F e ss (pI i) ss1) : JO F (some e) ss (some i) ss1 := fun xs P0 H0 ow σ P H S Q k => ⟨_, fun i => po_some (xe i), h _ _ _ _ _ _ _ S _ fun v P2 H2 S2 e2 r => ⟨i, r, k P2 H2 S2 e2⟩⟩
def cutR {α : Type} (xs : List α) (lo hi : Option Int) : List α := (xs.drop (HT.sIx xs.length 0 lo)).take (HT.sIx xs.length xs.length hi - HT.sIx xs.length 0 lo)
theorem PL.cut {P : Hp} {Rs : List Pr} {vs : List V} (h : PL P Rs vs) (lo hi : Option Int) : PL P (cutR Rs lo hi) (cutV vs lo hi) := by
  unfold cutR cutV
  rw [h.len]
  exact (h.drop _).take _
theorem jf_slL {lo hi : Option Expr} {l h : Option Int} {p2 : Pos} {ss3 : List Sl} (ha : JE F e ss (pL Rs) ss1) (hl : JO F lo ss1 l ss2) (hh : JO F hi ss2 h ss3) (hK : ∀ i, (F i).K = K := by intro _; rfl) :
    JF F (.Subscript e (.Slice lo hi none p2) pos) ss (cutR Rs l h) ss3 := fun xs P0 H0 ow σ P H S Q k =>
  ⟨tSl (rSlL K) (XE F e) (XO F lo) (XO F hi), fun i => pe_slice (hK i ▸ sl_list) (xe i) (xo i) (xo i), ha _ _ _ _ _ _ _ S.here _ fun v P2 H2 S2 e2 r2 => hl _ _ _ _ _ _ _ S2 _ fun P3 H3 S3 e3 => hh _ _ _ _ _ _ _ S3 _ fun P4 H4 S4 e4 => by
    obtain ⟨a, ys, rfl, h2, h3⟩ := (pL Rs).up (e3.trans e4) r2
    refine ⟨a, ys, rfl, .inl (S4.ld.rd h2), fun t ht => ?_⟩
    have g := Gr.junk S4.ld ht (.lst (cutV ys l h))
    exact k t _ P4 _ (S.back (S4.grow g) fun a ha => .inl ha) (e2.trans (e3.trans e4)) (S4.gone ht) (S4.ld.none ht) upd_same (h3.cut l h)⟩
theorem je_slT {lo hi : Option Expr} {l h : Option Int} {p2 : Pos} {ss3 : List Sl} (ha : JE F e ss (pT K Rs) ss1) (hl : JO F lo ss1 l ss2) (hh : JO F hi ss2 h ss3) (hK : ∀ i, (F i).K = K := by intro _; rfl) :
    JE F (.Subscript e (.Slice lo hi none p2) pos) ss (pT K (cutR Rs l h)) ss3 := fun xs P0 H0 ow σ P H S Q k =>
  ⟨tSl (rSlA K) (XE F e) (XO F lo) (XO F hi), fun i => pe_slice (hK i ▸ sl_tupA) (xe i) (xo i) (xo i), ha _ _ _ _ _ _ _ S _ fun v P2 H2 S2 e2 r2 => hl _ _ _ _ _ _ _ S2 _ fun P3 H3 S3 e3 => hh _ _ _ _ _ _ _ S3 _ fun P4 H4 S4 e4 => by
    obtain ⟨a, ys, rfl, h2, h3, h4⟩ := (pT K Rs).up (e3.trans e4) r2
    refine ⟨a, ys, rfl, h2.sq S4.ld, fun q => k _ P4 H4 S4 (e2.trans (e3.trans e4)) ?_, fun _ t ht => ?_⟩
    · have : cutR Rs l h = Rs := by
        unfold cutR
        rw [← h3.len, q.1, q.2]
        simp [h3.len]
      rw [this]
      exact ⟨a, ys, rfl, h2, h3, h4⟩
    · have g := Gr.new S4.ld ht (.tup (cutV ys l h))
      exact k _ _ _ (S4.grow g) ((e2.trans (e3.trans e4)).trans g.p) ⟨t, _, rfl, upd_same, (h3.cut l h).up g.p, Nat.le_trans (cutV_length _ _ _) h4⟩⟩
end
end Ly
namespace Ly
open PySem L2
theorem cutR_to {α : Type} (xs : List α) (i : Nat) : cutR xs none (some (i : Int)) = xs.take i := by
  unfold cutR
  rw [HT.sIx_none, HT.sIx_nat, Nat.sub_zero, List.drop_zero]
  by_cases h : i ≤ xs.length
  · rw [Nat.min_eq_left h]
  · rw [Nat.min_eq_right (by omega), List.take_of_length_le (by omega), List.take_of_length_le (by omega)]
theorem cutR_from {α : Type} (xs : List α) (i : Nat) : cutR xs (some (i : Int)) none = xs.drop i := by
  unfold cutR
  rw [HT.sIx_none, HT.sIx_nat]
  by_cases h : i ≤ xs.length
  · rw [Nat.min_eq_left h, List.take_of_length_le (by simp)]
  · rw [Nat.min_eq_right (by omega), List.drop_of_length_le (by omega), List.drop_of_length_le (by omega)]
    simp
theorem cutR_from1 {α : Type} (xs : List α) (i : Nat) : cutR xs (some ((i : Int) + 1)) none = xs.drop (i + 1) := cutR_from xs (i + 1)
theorem cutR_map {α β : Type} (f : α → β) (xs : List α) (lo hi : Option Int) : cutR (xs.map f) lo hi = (cutR xs lo hi).map f := by
  unfold cutR
  rw [List.length_map, List.map_take, List.map_drop]
/-! ### a slot's own list is read -/
section
variable {ι : Type} {F : ι → Cx} {K : PySem.W.Frag} {ss ss1 ss2 : List Sl} {R : Pr} {Rs : List Pr} {o e b : Expr} {pos : Pos}
theorem S8.ownL {xs : List Addr} {P0 H0 : Hp} {ow : List Addr} {σ : St} {P H : Hp} {ss : List Sl} (S : S8 xs P0 H0 ow σ P H ss) {i : Nat} {Rs : List Pr} (h : ss[i]? = some (.ow (oL Rs))) : ∃ l vs, σ[i]? = some (some (.ref l)) ∧ H l = some (.lst vs) ∧ PL P Rs vs := by
  obtain ⟨v, fp, ev, ⟨l, vs, rfl, rfl, hl, rs⟩, _, _⟩ := S.owned h
  exact ⟨l, vs, ev, hl, rs⟩
theorem jt_ownB (i : Nat) (ho : ∀ j, PE (F j) o (tVar i)) (hs : ss[i]? = some (.ow (oL Rs)) := by rfl) (he : ∀ j whole, isTrue o (F j).env whole = (do let v ← whole; standAt o.pos; holding [v] (truthy v)) := by intro _ _; rfl) (hK : ∀ i, (F i).K = K := by intro _; rfl) :
    JT F o ss (!Rs.isEmpty) ss := fun xs P0 H0 ow σ P H S Q k => by
  obtain ⟨l, vs, ev, hl, rs⟩ := S.ownL hs
  refine ⟨fun σ H Q => tVar i σ H fun x H' => ∃ k, TruV K x H' k ∧ Q k H', fun j => by have q := pt_truth (ho j) (he j); rw [hK j] at q; exact q, ?_⟩
  refine ⟨_, ev, !Rs.isEmpty, .inl ⟨vs, .inl (.inl hl), ?_⟩, k P H S (Same.refl _)⟩
  cases rs <;> rfl
theorem je_ixO (i : Nat) {z : Int} {j : Nat} (ho : ∀ j, PE (F j) o (tVar i)) (hb : JE F b ss (pI z) ss1) (hs : ss[i]? = some (.ow (oL Rs)) := by rfl) (hs1 : ss1[i]? = some (.ow (oL Rs)) := by rfl) (hx : PlainIx b) (hj : ixN Rs.length z = some j) (h : Rs[j]? = some R) (hK : ∀ i, (F i).K = K := by intro _; rfl) :
    JE F (.Subscript o b pos) ss R ss1 := fun xs P0 H0 ow σ P H S Q k => by
  obtain ⟨l, vs, ev, hl, rs⟩ := S.ownL hs
  refine ⟨tOp (rIxL K) (tVar i) (XE F b), fun j => pe_ix (hK j ▸ ix_list) (ho j) (xe j) hx, _, ev, hb _ _ _ _ _ _ _ S _ fun w P2 H2 S2 e2 r2 => ?_⟩
  obtain ⟨l', vs', ev', hl', rs'⟩ := S2.ownL hs1
  rw [ev] at ev'
  have el : l = l' := by injection ev' with z; injection z with z; injection z
  subst el
  obtain ⟨u, e1, r1⟩ := rs'.at h
  refine ⟨l, vs', z, u, rfl, r2, .inl (.inl hl'), ?_, k u P2 H2 S2 e2 r1⟩
  unfold atI
  rw [rs'.len, hj]
  exact e1
theorem je_lenO (i : Nat) {p : Pos} (ho : ∀ j, PE (F j) o (tVar i)) (hs : ss[i]? = some (.ow (oL Rs)) := by rfl) (hm : ∀ i, (F i).mg "len" = none) (hg : ∀ i, Gl (F i) "len" := by intro _; rfl) (he : ∀ i, starEach [o] (F i).env = (false, eval o (F i).env) :: starEach [] (F i).env := by intro _; rfl)
    (hpl : ∀ i, (backTo pos (starEach [] (F i).env)).any (·.1) = false := by intro _; rfl) (hK : ∀ i, (F i).K = K := by intro _; rfl) : JE F (.Call (.Name "len" p) [o] [] pos) ss (pI (Rs.length : Int)) ss := fun xs P0 H0 ow σ P H S Q k => by
  obtain ⟨l, vs, ev, hl, rs⟩ := S.ownL hs
  refine ⟨tCB (rLen1 K) (tCons (tVar i) tNil), fun j => pe_callB (r := rLen1 K) (hK j ▸ call_len_seq) (hg j) (hm j) boot_len (pa_cons (ho j) pa_nil (he j)) (by decide) (by decide) (he j) (hpl j), _, ev, l, vs, rfl, .inl (.inl (.inl hl)), k _ P H S (Same.refl _) (by rw [rs.len]; rfl)⟩
end
section
variable {X : Cx} {K : PySem.W.Frag} {xs : List Addr} {P0 H0 : Hp} {ow : List Addr} {σ : St} {P H : Hp} {ss ss1 ss2 : List Sl} {R : Pr} {D : Ends} {rest : List Stmt} {e : Expr} {pos : Pos}
/-- o[b] = e, o a slot's own list -/
theorem w_setO (i : Nat) {o b : Expr} {p : Pos} {Rs : List Pr} {z : Int} {j : Nat} (S : S8 xs P0 H0 ow σ P H ss) (h : JE (C1 X) e ss R ss1) (ho : ∀ j, PE (C1 X j) o (tVar i)) (hb : JE (C1 X) b ss1 (pI z) ss1) (hs1 : ss1[i]? = some (.ow (oL Rs)) := by rfl) (hj : ixN Rs.length z = some j)
    (k : ∀ ow P H, S8 xs P0 H0 ow σ P H (ss1.set i (.ow (oL (Rs.set j R)))) → XS X rest D σ H)
    (ha : ∀ v, assign (.Subscript o b p) X.env v = (do
      let ov ← holding [v] (eval o X.env)
      let iv ← holding [v, ov] (eval b X.env)
      standAt p
      holding [v, ov, iv] (setItem ov iv v)
      release [v, ov, iv] []) := by intro _; rfl)
    (hw : swapsWithSole [.Subscript o b p] e pos.line X.env = pure false := by rfl) (hw2 : swappedStores [.Subscript o b p] e X.env = pure none := by rfl) (h1 : (assignEach [.Subscript o b p] X.env).map (·.2) = [assign (.Subscript o b p) X.env] := by rfl) :
    XS X (.Assign [.Subscript o b p] e pos :: rest) D σ H := by
  refine w_cons ⟨_, ps_asg (xe (F := C1 X) ()) (pg_sub (ho ()) (xe (F := C1 X) ()) set_list ha) hw hw2 h1, ?_⟩
  refine h _ _ _ _ _ _ _ S _ fun v P2 H2 S2 e2 r2 => ?_
  obtain ⟨l, vs, ev, hl, rs⟩ := S2.ownL hs1
  refine ⟨.ref l, ev, hb _ _ _ _ _ _ _ S2 _ fun w P3 H3 S3 e3 r3 => ?_⟩
  obtain ⟨u, fp, ev', ⟨l', vs', rfl, rfl, hl', rs'⟩, _, put⟩ := S3.owned hs1
  rw [ev] at ev'
  have el : l = l' := by injection ev' with z; injection z with z; injection z
  subst el
  obtain ⟨ow', _, S4⟩ := put (upd H3 l (.lst (vs'.set j v))) (oL (Rs.set j R)) (fun b hb => upd_ne (fun z => hb (by simp [z]))) (fun b hb => by
    have hb : b = l := by simpa using hb
    rw [hb, upd_same]
    exact Option.some_ne_none _) ⟨l, _, rfl, rfl, upd_same, rs'.set (R.up e3 r2) j⟩
  exact ⟨l, vs', z, j, rfl, r3, hl', by rw [rs'.len]; exact hj, k ow' P3 _ S4⟩
end
end Ly
/-! Dicts whose keys are nested tuples of ints and texts: the object itself is pinned while nobody writes it. -/
namespace Ly
open PySem PySem.Spec PyProof.Rows L2
/-! ### keys -/
mutual
/-- v is the key k, its tuples tracked in P -/
inductive NK (P : Hp) : NestedKey → V → Prop
  | num (i : Int) : NK P (.num i) (.int i)
  | text (x : Str) : NK P (.text x) (.str x)
  | tup {a : Addr} {vs : List V} {ks : List NestedKey} : P a = some (.tup vs) → NKs P ks vs → NK P (.tup ks) (.ref a)
inductive NKs (P : Hp) : List NestedKey → List V → Prop
  | nil : NKs P [] []
  | cons {k : NestedKey} {v : V} {ks : List NestedKey} {vs : List V} : NK P k v → NKs P ks vs → NKs P (k :: ks) (v :: vs)
end
mutual
theorem NK.up {P P' : Hp} (e : Same P P') : ∀ (k : NestedKey) (v : V), NK P k v → NK P' k v
  | .none, _, h => by cases h
  | .num i, _, h => by cases h; exact .num i
  | .text x, _, h => by cases h; exact .text x
  | .tup ks, _, h => by
    cases h with
    | tup h1 h2 => exact .tup (e _ _ h1) (NKs.up e ks _ h2)
theorem NKs.up {P P' : Hp} (e : Same P P') : ∀ (ks : List NestedKey) (vs : List V), NKs P ks vs → NKs P' ks vs
  | [], _, h => by cases h; exact .nil
  | k :: ks, _, h => by
    cases h with
    | cons h1 h2 => exact .cons (NK.up e k _ h1) (NKs.up e ks _ h2)
end
mutual
theorem NK.is {P : Hp} {prog : Program} {w : World} {H : Hp} {h : Heap} (hok : HOk prog w H h) (l : ∀ b vs, P b = some (.tup vs) → H b = some (.tup vs)) : ∀ (k : NestedKey) (v : V) (u : Value), NK P k v → RelV v u → NestedIs h k u
  | .none, _, _, h, _ => by cases h
  | .num i, _, u, h, r => by
    cases h
    obtain ⟨t, rfl⟩ := r
    exact .int i t
  | .text x, _, u, h, r => by
    cases h
    obtain ⟨t, rfl⟩ := r
    exact .text x t
  | .tup ks, _, u, h, r => by
    cases h with
    | tup h1 h2 =>
      cases r
      obtain ⟨_, its, rv, o, e1, e2, n, e3⟩ := (show ObjOk prog w H _ _ (.tup _) from hok _ _ (l _ _ h1))
      exact .tup e1 e2 e3 (by simpa using NKs.is hok l ks _ its h2 rv)
theorem NKs.is {P : Hp} {prog : Program} {w : World} {H : Hp} {h : Heap} (hok : HOk prog w H h) (l : ∀ b vs, P b = some (.tup vs) → H b = some (.tup vs)) : ∀ (ks : List NestedKey) (vs : List V) (us : List Value), NKs P ks vs → Vals vs us → NestedAll h ks us
  | [], _, us, h, r => by cases h; cases r; exact .nil
  | k :: ks, _, us, h, r => by
    cases h with
    | cons h1 h2 =>
      cases r with
      | cons r1 r2 => exact .cons (NK.is hok l k _ _ h1 r1) (NKs.is hok l ks _ _ h2 r2)
end
theorem Ld.tup {P H : Hp} (l : Ld P H) : ∀ b vs, P b = some (.tup vs) → H b = some (.tup vs) := fun b vs h => l.at h (fun z => z)
/-! ### the dict -/
abbrev DE := NestedKey × Addr × V
abbrev DEs (xs : List DE) (us : List (NestedKey × Addr × Value)) : Prop := Paired (fun (x : DE) (u : NestedKey × Addr × Value) => u.1 = x.1 ∧ u.2.1 = x.2.1 ∧ RelV x.2.2 u.2.2) xs us
def entN (w : World) (x : NestedKey × Addr × Value) : DictEntry := ⟨x.1.hash w, .ref x.2.1, x.2.2⟩
def DObj (w : World) (o : Obj) (xs : List DE) : Prop := o.ExactDict ∧ ∃ (es : Array DictEntry) (ep : Nat) (us : List (NestedKey × Addr × Value)), o.data = .dict es ep ∧ es.toList = us.map (entN w) ∧ (us.map (·.1)).Nodup ∧ DEs xs us
def pin (d : Addr) (o : Obj) : HO := .ext fun h => h.get? d = some o
/-- at d stands a dict of the entries xs -/
def DAt (w : World) (H : Hp) (d : Addr) (xs : List DE) : Prop := ∃ o, H d = some (pin d o) ∧ DObj w o xs ∧ (d == sysModules) = false ∧ xs.length ≤ sizeLine
def DKs (P : Hp) (xs : List DE) : Prop := ∀ x ∈ xs, NK P x.1 (.ref x.2.1) ∧ x.1.depth ≤ 8
def atD (xs : List DE) (k : NestedKey) : Option V := (xs.find? fun x => decide (x.1 = k)).map (·.2.2)
def putD (xs : List DE) (k : NestedKey) (a : Addr) (v : V) : List DE := if (atD xs k).isSome then xs.map (fun x => if x.1 = k then (x.1, x.2.1, v) else x) else xs ++ [(k, a, v)]
theorem DEs.atD {xs : List DE} {us : List (NestedKey × Addr × Value)} (h : DEs xs us) (k : NestedKey) : RelO (Ly.atD xs k) ((atKey us k).map (·.2)) := by
  unfold Ly.atD atKey
  induction h with
  | nil => exact True.intro
  | @cons x u xs us r t ih =>
    rw [List.find?_cons, List.find?_cons]
    by_cases e : x.1 = k
    · have e' : u.1 = k := r.1.trans e
      simp only [e, e', decide_true]
      exact r.2.2
    · have e' : ¬ u.1 = k := fun z => e (r.1.symm.trans z)
      simp only [e, e', decide_false]
      exact ih
theorem RelO.isSome {o : Option V} {q : Option Value} (h : RelO o q) : o.isSome = q.isSome := by
  cases o <;> cases q <;> first | rfl | exact absurd h (fun z => z)
theorem DEs.atS {xs : List DE} {us : List (NestedKey × Addr × Value)} (h : DEs xs us) (k : NestedKey) : (Ly.atD xs k).isSome = (atKey us k).isSome := by
  have q := RelO.isSome (h.atD k)
  rw [Option.isSome_map] at q
  exact q
theorem DEs.map_put {xs : List DE} {us : List (NestedKey × Addr × Value)} (h : DEs xs us) (k : NestedKey) {v : V} {u : Value} (r : RelV v u) : DEs (xs.map fun x => if x.1 = k then (x.1, x.2.1, v) else x) (us.map (putAt k u)) := by
  induction h with
  | nil => exact .nil
  | @cons x y xs us q t ih =>
    refine .cons ?_ ih
    unfold putAt
    dsimp only
    by_cases e : x.1 = k
    · have e' : y.1 = k := q.1.trans e
      rw [if_pos e, if_pos e']
      exact ⟨q.1, q.2.1, r⟩
    · have e' : ¬ y.1 = k := fun z => e (q.1.symm.trans z)
      rw [if_neg e, if_neg e']
      exact q
theorem DEs.snoc {xs : List DE} {us : List (NestedKey × Addr × Value)} (h : DEs xs us) {x : DE} {u : NestedKey × Addr × Value} (r : u.1 = x.1 ∧ u.2.1 = x.2.1 ∧ RelV x.2.2 u.2.2) : DEs (xs ++ [x]) (us ++ [u]) := by
  induction h with
  | nil => exact .cons r .nil
  | cons q t ih => exact .cons q ih
theorem DEs.put {xs : List DE} {us : List (NestedKey × Addr × Value)} (h : DEs xs us) (k : NestedKey) (a : Addr) {v : V} {u : Value} (r : RelV v u) : DEs (putD xs k a v) (storedH us k a u) := by
  unfold putD storedH
  rw [h.atS k]
  by_cases c : (atKey us k).isSome = true
  · rw [if_pos c, if_pos c]
    exact h.map_put k r
  · rw [if_neg c, if_neg c]
    exact h.snoc ⟨rfl, rfl, r⟩
theorem putD_len (xs : List DE) (k : NestedKey) (a : Addr) (v : V) : (putD xs k a v).length ≤ xs.length + 1 := by
  unfold putD
  split <;> simp
section
variable {X : Cx} {pins : List (Addr × Obj)} {σ : L2.St} {H : Hp} {s : Shared} {d a : Addr} {xs : List DE} {k : NestedKey} {A : Around} {E : Value → Shared → Prop}
theorem pin_at (I : Inv X pins σ H s) {o : Obj} (h : H d = some (pin d o)) : s.heap.get? d = some o := (show ObjOk X.prog X.w H s.heap d (pin d o) from I.hok _ _ h).1
theorem pin_ok {prog : Program} {w : World} {H : Hp} {h : Heap} {o : Obj} (e : h.get? d = some o) : ObjOk prog w H h d (pin d o) := ⟨e, ⟨o, e⟩, fun _ _ q k => k o q⟩
theorem DObj.of {h : Heap} {prog : Program} {w : World} {us : List (NestedKey × Addr × Value)} (hd : h.DictOfH (nestedKind prog w) d us) (r : DEs xs us) : ∃ o, h.get? d = some o ∧ DObj w o xs := by
  obtain ⟨o, es, ep, ho, hx, hdat, he, _, hn⟩ := hd
  exact ⟨o, ho, hx, es, ep, us, hdat, he, hn, r⟩
theorem DObj.dict (I : Inv X pins σ H s) {o : Obj} (h : s.heap.get? d = some o) (D : DObj X.w o xs) (kk : DKs H xs) : ∃ us, DEs xs us ∧ s.heap.DictOfH (nestedKind X.prog X.w) d us := by
  obtain ⟨hx, es, ep, us, hdat, he, hn, r⟩ := D
  refine ⟨us, r, o, es, ep, h, hx, hdat, he, ?_, hn⟩
  have key : ∀ {xs : List DE} {us : List (NestedKey × Addr × Value)}, DEs xs us → DKs H xs → ∀ x ∈ us, (nestedKind X.prog X.w).is s.heap x.1 x.2.1 := by
    intro xs us r
    induction r with
    | nil => intro _ x hx; cases hx
    | @cons y u ys us q t ih =>
      intro kk x hx
      rcases List.mem_cons.mp hx with z | z
      · subst z
        obtain ⟨nk, dp⟩ := kk y (by simp)
        rw [q.1, q.2.1]
        exact ⟨NK.is I.hok (fun _ _ z => z) _ _ _ nk rfl, dp⟩
      · exact ih (fun y hy => kk y (List.mem_cons_of_mem _ hy)) x z
  exact key r kk
theorem NK.key (I : Inv X pins σ H s) (nk : NK H k (.ref a)) (dp : k.depth ≤ 8) : (nestedKind X.prog X.w).is s.heap k a := ⟨NK.is I.hok (fun _ _ z => z) _ _ _ nk rfl, dp⟩
theorem room8 (hu : A.units + 16 < cLine) {prog : Program} {w : World} : (nestedKind prog w).room A.in1 := by
  show A.in1.units + 8 < cLine
  rw [Around.in1_units]
  omega
theorem nd_get {v : V} {Q : Value → Shared → Prop} (hu : A.units + 16 < cLine) (I : Inv X pins σ H s) (D : DAt X.w H d xs) (kk : DKs H xs) (nk : NK H k (.ref a)) (dp : k.depth ≤ 8) (g : atD xs k = some v) (h : ∀ w' s', Inv X pins σ H s' → RelV v w' → Q w' s') :
    wpAny (model X.prog X.w) A (getItem (.ref d) (.ref a)) Q E s := by
  obtain ⟨o, ho, D, hs, hz⟩ := D
  obtain ⟨us, r, hd⟩ := D.dict I (pin_at I ho) kk
  have q := r.atD k
  rw [g] at q
  cases hq : atKey us k with
  | none => rw [hq] at q; exact False.elim q
  | some p =>
    rw [hq] at q
    exact wpAny_getItem_heap (room8 hu) (nk.key I dp) hd hq (h _ _ (I.tok _) q)
theorem nd_in {Q : Value → Shared → Prop} (hu : A.units + 16 < cLine) (I : Inv X pins σ H s) (D : DAt X.w H d xs) (kk : DKs H xs) (nk : NK H k (.ref a)) (dp : k.depth ≤ 8) (h : ∀ s', Inv X pins σ H s' → Q (.bool (atD xs k).isSome) s') :
    wpAny (model X.prog X.w) A (compareOp .In (.ref a) (.ref d)) Q E s := by
  obtain ⟨o, ho, D, hs, hz⟩ := D
  obtain ⟨us, r, hd⟩ := D.dict I (pin_at I ho) kk
  refine wpAny_in_heap (room8 hu) (nk.key I dp) hs hd ?_
  rw [← r.atS k]
  exact h _ (I.tok _)
theorem nd_notin {Q : Value → Shared → Prop} (hu : A.units + 16 < cLine) (I : Inv X pins σ H s) (D : DAt X.w H d xs) (kk : DKs H xs) (nk : NK H k (.ref a)) (dp : k.depth ≤ 8) (h : ∀ s', Inv X pins σ H s' → Q (.bool (!(atD xs k).isSome)) s') :
    wpAny (model X.prog X.w) A (compareOp .NotIn (.ref a) (.ref d)) Q E s := by
  obtain ⟨o, ho, D, hs, hz⟩ := D
  obtain ⟨us, r, hd⟩ := D.dict I (pin_at I ho) kk
  refine wpAny_notIn_heap (room8 hu) (nk.key I dp) hs hd ?_
  rw [← r.atS k]
  exact h _ (I.tok _)
/-- the dict written -/
theorem nd_write (I : Inv X pins σ H s) {o : Obj} (ho : H d = some (pin d o)) (hs : (d == sysModules) = false) {h' : Heap} {us : List (NestedKey × Addr × Value)} (hd : h'.DictOfH (nestedKind X.prog X.w) d us) (r : DEs xs us) (hz : xs.length ≤ sizeLine) (sb : Heap.SameBut d s.heap h') (tk : Nat) :
    ∃ o', DObj X.w o' xs ∧ Inv X pins σ (upd H d (pin d o')) { s with heap := h', toks := tk } := by
  obtain ⟨o', e, D⟩ := DObj.of hd r
  exact ⟨o', D, I.write (by rw [ho]; exact True.intro) (.inl rfl) (fun b u hb q => (sb.2 b hb).trans q) ⟨o', e⟩ (pin_ok e)⟩
theorem nd_set {v : V} {u : Value} {Q : Unit → Shared → Prop} (hu : A.units + 16 < cLine) (I : Inv X pins σ H s) (D : DAt X.w H d xs) (kk : DKs H xs) (nk : NK H k (.ref a)) (dp : k.depth ≤ 8) (rv : RelV v u) (hl : xs.length < sizeLine)
    (h : ∀ o s', DObj X.w o (putD xs k a v) → Inv X pins σ (upd H d (pin d o)) s' → Q () s') : wpAny (model X.prog X.w) A (setItem (.ref d) (.ref a) u) Q E s := by
  obtain ⟨o, ho, D, hs, hz⟩ := D
  obtain ⟨us, r, hd⟩ := D.dict I (pin_at I ho) kk
  have hl' : us.length = xs.length := (Paired.length r).symm
  refine wpAny_setItem_heap (hsz := by rw [hl']; exact hz) (room8 hu) (nk.key I dp) hd fun h' hd' sb => ?_
  obtain ⟨o', D', I'⟩ := nd_write I ho hs hd' (r.put k a rv) (Nat.le_trans (putD_len _ _ _ _) hl) sb (s.toks + (nestedKind X.prog X.w).draws k)
  exact h o' _ D' I'
theorem nd_setdefault {v : V} {u : Value} {Q : Value → Shared → Prop} (hu : A.units + 16 < cLine) (I : Inv X pins σ H s) (D : DAt X.w H d xs) (kk : DKs H xs) (nk : NK H k (.ref a)) (dp : k.depth ≤ 8) (rv : RelV v u) (hl : xs.length < sizeLine)
    (h1 : ∀ z w' s', atD xs k = some z → RelV z w' → Inv X pins σ H s' → Q w' s') (h2 : atD xs k = none → ∀ o s', DObj X.w o (putD xs k a v) → Inv X pins σ (upd H d (pin d o)) s' → Q u s') :
    wpAny (model X.prog X.w) A (call (.builtin "dict.setdefault") [.ref d, .ref a, u]) Q E s := by
  obtain ⟨o, ho, D, hs, hz⟩ := D
  obtain ⟨us, r, hd⟩ := D.dict I (pin_at I ho) kk
  have hl' : us.length = xs.length := (Paired.length r).symm
  have q := r.atD k
  refine call_setdefault_heap (hsz := by rw [hl']; exact hz) (room8 hu) (nk.key I dp) hs hd (fun p hp => ?_) fun hn h' hd' sb => ?_
  · rw [hp] at q
    cases hg : atD xs k with
    | none => rw [hg] at q; exact False.elim q
    | some z => rw [hg] at q; exact h1 z _ _ hg q (I.tok _)
  · obtain ⟨o', D', I'⟩ := nd_write I ho hs hd' (r.put k a rv) (Nat.le_trans (putD_len _ _ _ _) hl) sb (s.toks + (nestedKind X.prog X.w).draws k)
    refine h2 ?_ o' _ D' I'
    rw [hn] at q
    cases hg : atD xs k with
    | none => rfl
    | some z => rw [hg] at q; exact False.elim q
theorem DObj.raw {o : Obj} {w : World} (D : DObj w o xs) : ∃ es ep, o.ExactDict ∧ o.data = .dict es ep ∧ es.size = xs.length ∧ ∀ (i : Nat) (x : DE), xs[i]? = some x → ∃ en, es[i]? = some en ∧ en.key = .ref x.2.1 ∧ RelV x.2.2 en.val := by
  obtain ⟨hx, es, ep, us, hdat, he, hn, r⟩ := D
  refine ⟨es, ep, hx, hdat, ?_, fun i x e => ?_⟩
  · rw [← Array.length_toList, he, List.length_map]
    exact (Paired.length r).symm
  · obtain ⟨u, hu, q⟩ := paired_get r e
    refine ⟨entN w u, ?_, by rw [← q.2.1]; rfl, q.2.2⟩
    rw [← Array.getElem?_toList, he, List.getElem?_map, hu]
    rfl
theorem len_body_raw {prog : Program} {w : World} {es : Array DictEntry} {ep : Nat} {Q : Value → Shared → Prop} (hd : (d == sysModules) = false) (hm : s.heap.DictRaw d es ep) (hfit : (es.size : Int) < 2 ^ 63)
    (h : ∀ t s', s' = { s with toks := s'.toks } → Q (.int es.size t) s') : wpAny (model prog w) A (Builtin.«len» ⟨[.ref d], []⟩) (fun fin s' => ∃ r, fin = .done (.ret r) ∧ Q r s') E s := by
  unfold Builtin.«len»
  refine wpAny_bind (m := oneArg "len" _) (wpAny_pure ?_)
  refine wpAny_bind (m := callSpecial? (.ref d) (Str.ofString "__len__")) (wpAny_callSpecial?_slot (name := Str.ofString "__len__") hm.typeIs F.slot_dict_len (call_len_raw hd hm ?_))
  refine wpAny_bind (wpAny_holding (wpAny_pure ?_))
  refine wpAny_bind (wpAny_letGo ?_)
  show wpAny _ _ (if ((es.size : Nat) : Int) < 0 then _ else _) _ _ _
  rw [if_neg (by omega)]
  show wpAny _ _ (if ((es.size : Nat) : Int) ≥ 2 ^ 63 then _ else _) _ _ _
  rw [if_neg (by omega)]
  exact wpAny_bind (wpAny_mkInt (wpAny_pure ⟨_, rfl, h _ _ rfl⟩))
theorem nd_len {Q : Value → Shared → Prop} (I : Inv X pins σ H s) (D : DAt X.w H d xs) (h : ∀ t s', Inv X pins σ H s' → Q (.int xs.length t) s') : wpAny (model X.prog X.w) A (call (.builtin "len") [.ref d]) Q E s := by
  obtain ⟨o, ho, D, hs, hz⟩ := D
  obtain ⟨es, ep, hx, hdat, hsz, _⟩ := D.raw
  have hn := line63
  refine Calls.call_function_entry kind_len plain_len entry_len (args_len1 _) (len_body_raw hs ⟨o, pin_at I ho, hx, hdat⟩ (by omega) fun t s' e => ?_)
  rw [hsz, e]
  exact h _ _ (I.tok _)
end
end Ly
/-! Walking a pinned dict: its keys, values, pairs. enumerate of a tuple. -/
namespace Ly
open PySem PySem.Spec PyProof.Rows L2
def ItN (d : Addr) (o : Obj) (n : Nat) (yl : Nat → Hp → V → Hp → Prop) : It :=
  ⟨fun i H => H d = some (pin d o) ∧ i < n, yl, fun i H => H d = some (pin d o) ∧ n ≤ i⟩
def yK (xs : List DE) : Nat → Hp → V → Hp → Prop := fun i H x H' => H' = H ∧ ∃ y, xs[i]? = some y ∧ x = .ref y.2.1
def yV (xs : List DE) : Nat → Hp → V → Hp → Prop := fun i H x H' => H' = H ∧ ∃ y, xs[i]? = some y ∧ x = y.2.2
def yI (xs : List DE) : Nat → Hp → V → Hp → Prop := fun i H x H' => ∃ T y, xs[i]? = some y ∧ x = .ref T ∧ H T = none ∧ H' = upd H T (.tup [.ref y.2.1, y.2.2])
section
variable {P : Program} {w : World} {K : PySem.W.Frag} {tg : Expr} {d : Addr} {o : Obj} {xs : List DE} {es : Array DictEntry} {ep : Nat}
/-- the entries of the pinned object -/
structure Ent (o : Obj) (xs : List DE) (es : Array DictEntry) (ep : Nat) : Prop where
  ex : o.ExactDict
  dt : o.data = .dict es ep
  sz : es.size = xs.length
  at_ : ∀ (i : Nat) (x : DE), xs[i]? = some x → ∃ en, es[i]? = some en ∧ en.key = .ref x.2.1 ∧ RelV x.2.2 en.val
theorem Ent.get (n : Ent o xs es ep) {i : Nat} (hi : i < xs.length) : ∃ (hj : i < es.size), xs[i]? = some xs[i] ∧ es[i].key = .ref xs[i].2.1 ∧ RelV xs[i].2.2 es[i].val := by
  have e := List.getElem?_eq_getElem hi
  obtain ⟨en, h1, h2, h3⟩ := n.at_ i _ e
  have hj : i < es.size := by rw [n.sz]; exact hi
  rw [Array.getElem?_eq_getElem hj] at h1
  cases h1
  exact ⟨hj, e, h2, h3⟩
theorem turn_keysN (it : Addr) (n : Ent o xs es ep) : Turn P w K tg (ItN d o xs.length (yK xs)) [it] it (fun i h => h.IsKeyIter it d i es.size ep) where
  mem := by simp
  obj := fun i h st b hb => by
    have e : b = it := by simpa using hb
    subst e
    obtain ⟨oi, e, c, dd⟩ := st
    exact ⟨oi, e, fun v z => by rw [dd] at z; cases z⟩
  keep := fun i h h' st k => st.at fun oi e => k it (by simp) oi e
  item := by
    intro X hP hw hK hc i pins s σ H E I hf st hg
    subst hP hw hK
    obtain ⟨hd, hi⟩ := hg
    obtain ⟨f0, f1, f2, f3, f4, f5⟩ := hf it (by simp)
    obtain ⟨hj, ex, ek, ev⟩ := n.get hi
    refine wpAny_pyNext_keys_item_raw st ⟨o, pin_at I hd, n.ex, n.dt⟩ hj fun h' st' sb => ?_
    have I1 : Inv X pins σ H { s with heap := h' } := I.turned (t' := s.toks) (fun b ob hb e => (sb.2 b hb).trans e) f0 f1 f3 f4 f5
    obtain ⟨oi, e, c, dd⟩ := id st'
    exact ⟨es[i].key, rfl, go_of (s := { s with heap := h' }) e c dd (by decide) ⟨.ref xs[i].2.1, H, I1, ek, ⟨rfl, _, ex, rfl⟩, st', fun b hb => (hf b hb).1⟩⟩
  done := by
    intro X hP hw hK hc i pins s σ H E I hf st hg
    subst hP hw hK
    obtain ⟨hd, hi⟩ := hg
    obtain ⟨f0, f1, f2, f3, f4, f5⟩ := hf it (by simp)
    exact wpAny_pyNext_keys_end_raw (I.ok.hd hc) st ⟨o, pin_at I hd, n.ex, n.dt⟩ (by rw [n.sz]; exact hi) fun h' eb => ⟨rfl, I.turned (t' := s.toks) (fun b ob hb e => eb b ob hb e) f0 f1 f3 f4 f5⟩
  self := fun A i s Q E st h => wpAny_pyIter_keyiter st h
theorem turn_valsN (it : Addr) (n : Ent o xs es ep) : Turn P w K tg (ItN d o xs.length (yV xs)) [it] it (fun i h => h.IsValIter it d i es.size ep) where
  mem := by simp
  obj := fun i h st b hb => by
    have e : b = it := by simpa using hb
    subst e
    obtain ⟨oi, e, c, dd⟩ := st
    exact ⟨oi, e, fun v z => by rw [dd] at z; cases z⟩
  keep := fun i h h' st k => st.at fun oi e => k it (by simp) oi e
  item := by
    intro X hP hw hK hc i pins s σ H E I hf st hg
    subst hP hw hK
    obtain ⟨hd, hi⟩ := hg
    obtain ⟨f0, f1, f2, f3, f4, f5⟩ := hf it (by simp)
    obtain ⟨hj, ex, ek, ev⟩ := n.get hi
    refine wpAny_pyNext_values_item_raw st ⟨o, pin_at I hd, n.ex, n.dt⟩ hj fun h' st' sb => ?_
    have I1 : Inv X pins σ H { s with heap := h' } := I.turned (t' := s.toks) (fun b ob hb e => (sb.2 b hb).trans e) f0 f1 f3 f4 f5
    obtain ⟨oi, e, c, dd⟩ := id st'
    exact ⟨es[i].val, rfl, go_of (s := { s with heap := h' }) e c dd (by decide) ⟨xs[i].2.2, H, I1, ev, ⟨rfl, _, ex, rfl⟩, st', fun b hb => (hf b hb).1⟩⟩
  done := by
    intro X hP hw hK hc i pins s σ H E I hf st hg
    subst hP hw hK
    obtain ⟨hd, hi⟩ := hg
    obtain ⟨f0, f1, f2, f3, f4, f5⟩ := hf it (by simp)
    exact wpAny_pyNext_values_end_raw (I.ok.hd hc) st ⟨o, pin_at I hd, n.ex, n.dt⟩ (by rw [n.sz]; exact hi) fun h' eb => ⟨rfl, I.turned (t' := s.toks) (fun b ob hb e => eb b ob hb e) f0 f1 f3 f4 f5⟩
  self := fun A i s Q E st h => wpAny_pyIter_valiter st h
theorem turn_itemsN {elts : List Expr} {kk : Nat} {tpos : Pos} (it : Addr) (n : Ent o xs es ep) :
    Turn P w K (.Tuple elts kk tpos) (ItN d o xs.length (yI xs)) [it] it (fun i h => ∃ ok ov, IsItemIter h it d i es.size ep ok ov) where
  mem := by simp
  obj := fun i h st b hb => by
    have e : b = it := by simpa using hb
    subst e
    obtain ⟨ok, ov, e⟩ := st
    exact ⟨_, e, fun v z => nomatch z⟩
  keep := fun i h h' st k => let ⟨ok, ov, e⟩ := st; ⟨ok, ov, k it (by simp) _ e⟩
  item := by
    intro X hP hw hK hc i pins s σ H E I hf st hg
    subst hP hw hK
    obtain ⟨hd, hi⟩ := hg
    obtain ⟨hj, ex, ek, ev⟩ := n.get hi
    obtain ⟨ok, ov, he⟩ := st
    have hlt : it < s.heap.objs.size := Heap.lt_size he
    refine wpAny_pyNext_items_item_raw he ⟨o, pin_at I hd, n.ex, n.dt⟩ hj fun h' ho hT hz hk => ?_
    refine ⟨_, rfl, wpAny_letOwnedTupleGo_items (s := { s with heap := h' }) ho fun h'' he' sb => ?_⟩
    have hT2 : h''.get? s.heap.objs.size = some { cls := .type "tuple", data := .seq #[es[i].key, es[i].val] } := (sb.2 _ (Nat.ne_of_gt hlt)).trans hT
    have new : ObjOk X.prog X.w (upd H s.heap.objs.size (.tup [.ref xs[i].2.1, xs[i].2.2])) h'' s.heap.objs.size (.tup [.ref xs[i].2.1, xs[i].2.2]) :=
      ⟨by show 2 ≤ sizeLine; decide, [es[i].key, es[i].val], .cons ek (.cons ev .nil), ⟨_, hT2, rfl, _, rfl⟩⟩
    have I1 : Inv X pins σ (upd H s.heap.objs.size (.tup [.ref xs[i].2.1, xs[i].2.2])) { s with heap := h'' } :=
      I.turnedNew (t' := s.toks) (ch := [it]) (fun b ob hb e => (sb.2 b (by simpa using hb)).trans (hk b ob (by simpa using hb) e)) hf (Nat.le_refl _) new
    refine ⟨.ref s.heap.objs.size, _, I1, rfl, ⟨_, _, ex, rfl, I.hok.fresh (Nat.le_refl _), rfl⟩, ⟨es[i].key, es[i].val, he'⟩, fun b hb => ?_⟩
    have e : b = it := by simpa using hb
    rw [e, upd_ne (Nat.ne_of_lt hlt)]
    exact (hf it (by simp)).1
  done := by
    intro X hP hw hK hc i pins s σ H E I hf st hg
    subst hP hw hK
    obtain ⟨hd, hi⟩ := hg
    obtain ⟨f0, f1, f2, f3, f4, f5⟩ := hf it (by simp)
    obtain ⟨ok, ov, he⟩ := st
    exact wpAny_pyNext_items_end_raw (I.ok.hd hc) he ⟨o, pin_at I hd, n.ex, n.dt⟩ (by rw [n.sz]; exact hi) fun h' eb => ⟨rfl, I.turned (t' := s.toks) (fun b ob hb e => eb b ob hb e) f0 f1 f3 f4 f5⟩
  self := fun A i s Q E st h => let ⟨_, _, e⟩ := st; wpAny_pyIter_itemiter e h
end
/-- a dict, told by its pinned object -/
def PinD (w : World) (H : Hp) (d : Addr) (o : Obj) (xs : List DE) : Prop := H d = some (pin d o) ∧ DObj w o xs ∧ (d == sysModules) = false
section
variable {X : Cx} {tg e : Expr} {td : TE} {apos cpos : Pos}
def iKeysN (w : World) (td : TE) : TI := fun σ H R => td σ H fun x H1 => ∃ d o xs, x = .ref d ∧ PinD w H1 d o xs ∧ R (ItN d o xs.length (yK xs)) H1
def iValsN (w : World) (td : TE) : TI := fun σ H R => td σ H fun x H1 => ∃ d o xs, x = .ref d ∧ PinD w H1 d o xs ∧ R (ItN d o xs.length (yV xs)) H1
def iItemsN (w : World) (td : TE) : TI := fun σ H R => td σ H fun x H1 => ∃ d o xs, x = .ref d ∧ PinD w H1 d o xs ∧ R (ItN d o xs.length (yI xs)) H1
theorem pi_keysN (he : PE X e td) : PI X tg e (iKeysN X.w td) := by
  refine ⟨fun pins s σ H R I h => ?_⟩
  refine thn (he.run pins s σ H _ I h) fun u s1 ⟨x, H1, I1, rx, d, o, xs, ex, ⟨hd, D, hs⟩, q⟩ => ?_
  subst ex
  obtain rfl : u = Value.ref d := rx
  obtain ⟨es, ep, n1, n2, n3, n4⟩ := D.raw
  refine wpAny_pyIter_dict_raw hs ⟨o, pin_at I1 hd, n1, n2⟩ (pi_one (tk := s1.toks) I1 _ (turn_keysN _ ⟨n1, n2, n3, n4⟩) ⟨_, Heap.get?_push_size _ rfl, rfl, rfl⟩ q)
theorem pi_valsN (he : PE X e td) (hbase : attributeBase e "values" X.env (eval e X.env) = eval e X.env := by rfl) (hline : (apos.endLine == cpos.line) = true := by rfl) : PI X tg (.Call (.Attribute e "values" apos) [] [] cpos) (iValsN X.w td) := by
  refine ⟨fun pins s σ H R I h => ?_⟩
  refine wpAny_Call_method (T := "dict") (id := "dict.values") hbase rfl hline F.plainAttrs_dict F.slot_dict_values F.type_dict_values (thn (he.run pins s σ H _ I h) fun u s1 ⟨x, H1, I1, rx, d, o, xs, ex, ⟨hd, D, hs⟩, q⟩ => ?_)
  subst ex
  obtain rfl : u = Value.ref d := rx
  obtain ⟨es, ep, n1, n2, n3, n4⟩ := D.raw
  have hr : s1.heap.DictRaw d es ep := ⟨o, pin_at I1 hd, n1, n2⟩
  refine ⟨hr.typeIs, fun b q => ?_, ?_⟩
  · cases q
    exact ⟨o, pin_at I1 hd, n1.2.1⟩
  have I2 : Inv X pins σ H1 { s1 with heap := s1.heap.push { cls := .type "dict_values", data := .fields #[.ref d] } } := I1.kept (t' := s1.toks) fun b ob q => Heap.get?_push_of_some _ q
  have fin : wpAny (model X.prog X.w) X.A (pyIter (.ref s1.heap.objs.size)) (PIE X pins σ tg R) X.xe { s1 with heap := s1.heap.push { cls := .type "dict_values", data := .fields #[.ref d] } } :=
    wpAny_pyIter_values_raw (d := d) ⟨_, Heap.get?_push_size _ rfl, rfl, rfl⟩ (hr.at fun _ e => Heap.get?_push_of_some _ e) (pi_one (tk := s1.toks) I2 _ (turn_valsN _ ⟨n1, n2, n3, n4⟩) ⟨_, Heap.get?_push_size _ rfl, rfl, rfl⟩ q)
  show wpAny _ _ (callWith cpos (.builtin "dict.values") [.ref d] [] []) _ X.xe s1
  exact method_meetsIn F.slot_dict_values F.entry_dict_values rfl (PySem.evalArgs_none ⟨rfl, hr.typeIs, F.args_dict_values_1 _, _, meets_dict_values_raw (prog := X.prog) (w := X.w) d hs, ⟨es, ep, hr⟩, fin⟩)
theorem pi_itemsN {elts : List Expr} {kk : Nat} {tpos : Pos} (he : PE X e td) (hbase : attributeBase e "items" X.env (eval e X.env) = eval e X.env := by rfl) (hline : (apos.endLine == cpos.line) = true := by rfl) :
    PI X (.Tuple elts kk tpos) (.Call (.Attribute e "items" apos) [] [] cpos) (iItemsN X.w td) := by
  refine ⟨fun pins s σ H R I h => ?_⟩
  refine wpAny_Call_method (T := "dict") (id := "dict.items") hbase rfl hline F.plainAttrs_dict F.slot_dict_items F.type_dict_items (thn (he.run pins s σ H _ I h) fun u s1 ⟨x, H1, I1, rx, d, o, xs, ex, ⟨hd, D, hs⟩, q⟩ => ?_)
  subst ex
  obtain rfl : u = Value.ref d := rx
  obtain ⟨es, ep, n1, n2, n3, n4⟩ := D.raw
  have hr : s1.heap.DictRaw d es ep := ⟨o, pin_at I1 hd, n1, n2⟩
  refine ⟨hr.typeIs, fun b q => ?_, ?_⟩
  · cases q
    exact ⟨o, pin_at I1 hd, n1.2.1⟩
  have I2 : Inv X pins σ H1 { s1 with heap := s1.heap.push { cls := .type "dict_items", data := .fields #[.ref d] } } := I1.kept (t' := s1.toks) fun b ob q => Heap.get?_push_of_some _ q
  have fin : wpAny (model X.prog X.w) X.A (pyIter (.ref s1.heap.objs.size)) (PIE X pins σ (.Tuple elts kk tpos) R) X.xe { s1 with heap := s1.heap.push { cls := .type "dict_items", data := .fields #[.ref d] } } :=
    wpAny_pyIter_items_raw (d := d) ⟨_, Heap.get?_push_size _ rfl, rfl, rfl⟩ (hr.at fun _ e => Heap.get?_push_of_some _ e) (pi_one (tk := s1.toks) I2 _ (turn_itemsN _ ⟨n1, n2, n3, n4⟩) ⟨.none, .none, Heap.get?_push_size _ rfl⟩ q)
  show wpAny _ _ (callWith cpos (.builtin "dict.items") [.ref d] [] []) _ X.xe s1
  exact method_meetsIn F.slot_dict_items F.entry_dict_items rfl (PySem.evalArgs_none ⟨rfl, hr.typeIs, F.args_dict_items_1 _, _, meets_dict_items_raw (prog := X.prog) (w := X.w) d hs, ⟨es, ep, hr⟩, fin⟩)
end
end Ly
/-! Comprehensions of any kind, with any number of clauses: the loop of one clause around a body. -/
namespace Ly
open PySem PySem.Spec PyProof.Rows L2
/-- one turn of a clause's loop -/
def turnOf (c : Expr) (k : Nat) (p : Pos) (tg : Expr) (ifs : List Expr) (bd : Sem Unit) (it acc : Value) (env : Env) : Sem Fin := do
  standAt p
  match ← pyNext it with
  | none => pure (.done .next)
  | some v =>
    letOwnedTupleGo tg it v
    assign tg env v
    let mut ok := true
    for c in ifs do
      if ok then ok ← isTrue c env (eval c env)
    if ok then bd
    again (.compLoop c k it acc env)
/-- what a comprehension's code is, whatever its clauses -/
structure CompC (c : Expr) (k : Nat) : Prop where
  q : ∀ it acc env, (Code.compLoop c k it acc env).quiet = true
  u : ∀ (A : Around) it acc env, A.under (.compLoop c k it acc env) = A
  d : ∀ (prog : Program) (w : World) it acc env, (model prog w).den (.compLoop c k it acc env) = (compTurn c k it acc env).onRaise (fun x => do noteFrame x env; theTreesLotGoes x)
  s : ∀ {prog : Program} {w : World} {A : Around} {R : Result → Shared → Prop} {s : Shared} {it acc : Value} {env : Env}, codeAny (model prog w) A (.compLoop c k it acc env) R s →
    wpAny (model prog w) A (pyIter it) (fun it' s' => codeAny (model prog w) A (.compLoop c k it' acc env) R s') (notedBy (model prog w) A env fun x s' => R (.error x) s') s → codeAny (model prog w) A (.compStart c k it acc env) R s
abbrev TB := L2.St → Hp → (Hp → Prop) → Prop
/-- m leaves the block's own slots alone or forgotten -/
structure PB (Y : Cx) (vs : List Nat) (m : Sem Unit) (tb : TB) : Prop where
  run : ∀ (pins : List (Addr × Obj)) (s : Shared) (σ : L2.St) (H : Hp) (Q : Hp → Prop), Inv Y pins σ H s → tb σ H Q → wpAny (model Y.prog Y.w) Y.A m (fun _ s' => ∃ H', Inv Y pins (wipe σ vs) H' s' ∧ Q H') (fun _ _ => False) s
/-- a clause's loop, by what its iterator yields -/
def tLoop (J : It) (g : TG) (tt : TT) (tb : TB) (vs : List Nat) : TB := fun σ H0 Q => ∃ W : Nat → Nat → Hp → Prop, (∃ m, W 0 m H0) ∧ ∀ i m H, W i m H →
  (J.stop i H ∧ Q H) ∨ (J.go i H ∧ ∃ Nx : Hp → Prop, (∀ H', Nx H' → ∃ m', m' < m ∧ W (i + 1) m' H') ∧ ∀ x H', J.yld i H x H' → g x (wipe σ vs) H' fun σ2 H2 => wipe σ2 vs = wipe σ vs ∧ tt σ2 H2 fun b H3 => if b = true then tb σ2 H3 Nx else Nx H3)
theorem loop_run {Y : Cx} {c : Expr} {k : Nat} {p : Pos} {tg : Expr} {ifs : List Expr} {bd : Sem Unit} {acc : Value} {g : TG} {tt : TT} {tb : TB} {vs : List Nat} {pins : List (Addr × Obj)} {s : Shared} {σ : L2.St} {H0 : Hp} {Q : Hp → Prop} {it : Addr} {fp : List Addr} {tn : Nat → Heap → Prop} {J : It}
    (hx : Y.xe = fun _ _ => False) (hc : Y.calm = true) (C : CompC c k) (ht : compTurn c k (.ref it) acc Y.env = turnOf c k p tg ifs bd (.ref it) acc Y.env) (pg : PG Y tg g) (pt : PTs Y ifs tt) (pb : PB Y vs bd tb) (T : Turn Y.prog Y.w Y.K tg J fp it tn)
    (I : Inv Y pins σ H0 s) (st : tn 0 s.heap) (hf : ∀ b ∈ fp, FpOk Y pins H0 b) (h : tLoop J g tt tb vs σ H0 Q) :
    codeAny (model Y.prog Y.w) Y.A (.compLoop c k (.ref it) acc Y.env) (fun r s' => match r with
      | .ok f => f = .next ∧ ∃ H', Inv Y pins (wipe σ vs) H' s' ∧ Q H'
      | .error _ => False) s := by
  obtain ⟨W, ⟨m0, w0⟩, turn⟩ := h
  have fpk : ∀ {H' : Hp}, (∀ b ∈ fp, H' b = none) → ∀ b ∈ fp, FpOk Y pins H' b := fun hn b hb => ⟨hn b hb, (hf b hb).2⟩
  refine codeAny_loop (C.q _ _ _) (fun n s' => ∃ i H', Inv Y pins (wipe σ vs) H' s' ∧ tn i s'.heap ∧ (∀ b ∈ fp, H' b = none) ∧ W i n H') (fun n s5 h5 => ?_) m0 ⟨0, H0, I.weak (wipe_length _ _) (fun j v e => (wipe_some e).1), st, fun b hb => (hf b hb).1, w0⟩
  obtain ⟨i, H5, I5, st5, n5, w5⟩ := h5
  rw [C.u, C.d]
  refine wpAny_noted ?_
  rw [ht]
  unfold turnOf
  refine wpAny_bind (wpAny_standAt (wpAny_bind ?_))
  rcases turn i n H5 w5 with ⟨stop, qq⟩ | ⟨go, Nx, hNx, step⟩
  · refine thnF (T.done Y rfl rfl rfl hc i pins s5 _ H5 (fun _ _ => False) I5 (fpk n5) st5 stop) fun r s6 ⟨hr, I6⟩ => ?_
    subst hr
    exact wpAny_pure ⟨rfl, H5, I6, qq⟩
  · refine thnF (T.item Y rfl rfl rfl hc i pins s5 _ H5 (fun _ _ => False) I5 (fpk n5) st5 go) fun r s6 ⟨u, hr, h6⟩ => ?_
    subst hr
    refine wpAny_bind (thnF h6 fun _ s7 ⟨x, H7, I7, r7, y7, st7, n7⟩ => ?_)
    have I7' := I7.pinned (fpk n7) (T.obj _ _ st7)
    have pgr := pg.run _ s7 _ H7 x u _ I7' r7 (step x H7 y7)
    rw [hx] at pgr
    refine wpAny_bind (thnF pgr fun _ s8 ⟨σ8, H8, I8, hw8, q8⟩ => ?_)
    have ptr := pt.run _ s8 σ8 H8 _ I8 q8
    rw [hx] at ptr
    refine wpAny_bind (thnF ptr fun b s9 ⟨H9, I9, q9⟩ => ?_)
    have fin : ∀ {s' : Shared} {H' : Hp}, Inv Y (pins ++ pinsAt fp s7.heap) (wipe σ8 vs) H' s' → Nx H' → ∃ m, m < n ∧ ∃ i H', Inv Y pins (wipe σ vs) H' s' ∧ tn i s'.heap ∧ (∀ b ∈ fp, H' b = none) ∧ W i m H' := fun {s' H'} I' nx => by
      obtain ⟨m', hm, w'⟩ := hNx H' nx
      have pin' : ∀ b ∈ fp, ∀ o, s7.heap.get? b = some o → s'.heap.get? b = some o ∧ H' b = none := fun b hb o e =>
        let z := I'.pin (b, o) (List.mem_append_right _ (List.mem_append_right _ (mem_pinsAt hb e)))
        ⟨z.1, z.2.1⟩
      rw [hw8] at I'
      refine ⟨m', hm, i + 1, H', I'.unpinned, T.keep _ _ _ st7 fun b hb o e => (pin' b hb o e).1, fun b hb => ?_, w'⟩
      obtain ⟨o, e, _⟩ := T.obj _ _ st7 b hb
      exact (pin' b hb o e).2
    cases b with
    | false =>
      simp only [Bool.false_eq_true, if_false] at q9
      exact wpAny_pure ⟨rfl, fin (I9.weak (wipe_length _ _) fun j v e => (wipe_some e).1) q9⟩
    | true =>
      simp only [if_true] at q9
      exact wpAny_bind (thnF (pb.run _ s9 σ8 H9 _ I9 q9) fun _ s10 ⟨H10, I10, nx⟩ => wpAny_pure ⟨rfl, fin I10 nx⟩)
/-- the next clause as a body -/
def nextOf (c : Expr) (k : Nat) (i1 : Expr) (acc : Value) (env : Env) : Sem Unit := do
  let x ← eval i1 env
  standAt i1.pos
  let x ← foldedSetIterable i1 env x
  let _ ← runOwn (.compStart c k (← holding [x] (pyIter x)) acc env) env
theorem pb_next {Y : Cx} {c : Expr} {k : Nat} {p : Pos} {tg i1 : Expr} {ifs : List Expr} {bd : Sem Unit} {acc : Value} {wi : TI} {g : TG} {tt : TT} {tb : TB} {vs : List Nat}
    (hx : Y.xe = fun _ _ => False) (hc : Y.calm = true) (C : CompC c k) (ht : ∀ it, compTurn c k it acc Y.env = turnOf c k p tg ifs bd it acc Y.env) (hs : ∀ x, foldedSetIterable i1 Y.env x = pure x) (pi : PI Y tg i1 wi) (pg : PG Y tg g) (pt : PTs Y ifs tt) (pb : PB Y vs bd tb) :
    PB Y vs (nextOf c k i1 acc Y.env) (fun σ H Q => wi σ H fun J H1 => tLoop J g tt tb vs σ H1 Q) := by
  refine ⟨fun pins s σ H Q I h => ?_⟩
  have q := pi.run pins s σ H _ I h
  rw [hx] at q
  unfold nextOf
  refine wpAny_bind (thnF q fun xv s1 h1 => wpAny_bind (wpAny_standAt (wpAny_bind (wpAny_of_eq (hs xv) (wpAny_bind (wpAny_holding (thnF h1 fun itv s2 h2 => ?_)))))))
  obtain ⟨it, fp, tn, J, H2, e, I2, T, st2, f2, lp⟩ := h2
  subst e
  have loop := loop_run hx hc C (ht _) pg pt pb T I2 st2 f2 lp
  refine wpAny_bind (wpAny_runOwn ?_)
  rw [Around.mark_none]
  refine codeAny_mono (C.s loop (T.self Y.A 0 _ _ _ st2 loop)) fun r s' hr => ?_
  cases r with
  | ok f =>
    obtain ⟨rfl, hr⟩ := hr
    first
      | exact wpAny_pure hr
      | exact wpAny_bind (wpAny_pure (wpAny_pure hr))
  | error e => exact hr.elim
/-- the whole comprehension -/
theorem comp_run {X : Cx} {pins : List (Addr × Obj)} {s : Shared} {σ : L2.St} {H : Hp} {Q : VK} {use : Option (Value → Sem Unit)} {Qf : Value → Shared → Prop} {c tg iter : Expr} {ifs : List Expr} {gs : List Comprehension} {scope : Scope} {own : List (Str × Nat)} {p pos' : Pos} {wi : TI} {g : TG} {tt : TT} {tb : Addr → TB} {mk : Sem Value} {o0 : Obj} {u0 : Addr → HO} {bd : Value → Env → Sem Unit}
    (hc : X.calm = true) (hN : X.N.Nodup) (I : Inv X pins σ H s) (hcl : clausesOf c = ⟨tg, iter, ifs, 0⟩ :: gs) (C : CompC c 0) (ht : ∀ it acc env, compTurn c 0 it acc env = turnOf c 0 p tg ifs (bd acc env) it acc env) (hi : PI X tg iter wi) (ok : BlkOk X.N X.env.scope scope own)
    (hmk : ∀ (s : Shared) (Q : Value → Shared → Prop), Q (.ref s.heap.objs.size) { s with heap := s.heap.push o0 } → wpAny (model X.prog X.w) X.A mk Q X.xe s) (hfr : o0.isFreed = false)
    (hu0 : ∀ (H : Hp) (h : Heap), sysModules < h.objs.size → ObjOk X.prog X.w H (h.push o0) h.objs.size (u0 h.objs.size))
    (hg : ∀ (s : Shared) (H : Hp) (C : Addr) (cl : List (Str × Addr)) (fp : List Addr), PG (X.blk s H scope (compEnvC scope cl C X.env) fp) tg g) (ht' : ∀ (s : Shared) (H : Hp) (C : Addr) (cl : List (Str × Addr)) (fp : List Addr), PTs (X.blk s H scope (compEnvC scope cl C X.env) fp) ifs tt)
    (hb : ∀ (D : Addr) (s : Shared) (H : Hp) (C : Addr) (cl : List (Str × Addr)) (fp : List Addr), PB (X.blk s H scope (compEnvC scope cl C X.env) fp) (own.map (·.2)) (bd (.ref D) (compEnvC scope cl C X.env)) (tb D)) (hs : ∀ x, foldedSetIterable iter X.env x = pure x)
    (h : wi σ H fun J H1 => ∀ D, H1 D = none → (D == sysModules) = false → tLoop J g tt (tb D) (own.map (·.2)) (wipe σ (own.map (·.2))) (upd H1 D (u0 D)) fun H' => Q (.ref D) H')
    (hRR : ∀ D C s' m H', Inv X pins σ H' s' → Q (.ref D) H' → s'.heap.Ns C m → FpOk X pins H' C → compPost (model X.prog X.w) X.A X.xe use Qf (.ref D) C (.ok .next) s') :
    wpAny (model X.prog X.w) X.A (comprehension c scope X.env pos' mk false (eval iter X.env) use) Qf X.xe s := by
  have hfree : ∀ y ∈ scope.names, y.2 = .free → ∃ c, X.env.cells.lookup y.1 = some c := fun y hy e => by
    rcases ok.free y hy e with k | k
    · exact I.ok.has _ (.inl k)
    · exact I.ok.has _ (.inr k)
  refine wpAny_comprehension_free (use := use) hcl hs (closure_ok hfree) ok.kind (fun y hy e => by rw [ok.uniq y hy, e])
    (thn (hi.run pins s σ H _ I h) fun xv s1 hx => thn hx fun itv s2 h2 => ?_)
  obtain ⟨it, fp, tn, J, H2, e, I2, T, st2, f2, q⟩ := h2
  subst e
  refine hmk _ _ (newEnv_comp ?_)
  generalize hD : s2.heap.objs.size = D
  have hDn : H2 D = none := I2.hok.fresh (Nat.le_of_eq hD)
  have lp := q D hDn (by rw [← hD]; exact beq_eq_false_iff_ne.mpr (Ne.symm (Nat.ne_of_lt I2.big)))
  generalize hs3 : ({ s2 with heap := s2.heap.push o0 } : Shared) = s3
  have I3 : Inv X pins σ (upd H2 D (u0 D)) s3 := by
    rw [← hs3]
    refine I2.laid (t' := s2.toks) (fun b o e => Heap.get?_push_of_some _ e) (Nat.le_of_eq hD) ?_
    rw [← hD]
    exact hu0 _ _ I2.big
  have h3 : s3.heap = s2.heap.push o0 := by rw [← hs3]
  have sz : ∀ b ∈ fp, b < s2.heap.objs.size := fun b hb => by
    obtain ⟨o, e, _⟩ := T.obj _ _ st2 b hb
    exact Heap.lt_size e
  have f3 : ∀ b ∈ fp, FpOk X pins (upd H2 D (u0 D)) b ∧ b < s3.heap.objs.size := fun b hb => by
    have hlt := sz b hb
    refine ⟨⟨?_, (f2 b hb).2⟩, by rw [h3, Heap.size_push]; exact Nat.lt_succ_of_lt hlt⟩
    rw [upd_ne (by rw [← hD]; exact Nat.ne_of_lt hlt)]
    exact (f2 b hb).1
  have st3 : tn 0 s3.heap := T.keep _ _ _ st2 fun b _ o e => by rw [h3]; exact Heap.get?_push_of_some _ e
  have I4 := block_start I3 ok hN f3
  have pg := hg s3 (upd H2 D (u0 D)) s3.heap.objs.size (cellsFrom (s3.heap.objs.size + 1) scope.names (cloFrom X.env.cells scope.names [])) fp
  have pt := ht' s3 (upd H2 D (u0 D)) s3.heap.objs.size (cellsFrom (s3.heap.objs.size + 1) scope.names (cloFrom X.env.cells scope.names [])) fp
  have pb := hb D s3 (upd H2 D (u0 D)) s3.heap.objs.size (cellsFrom (s3.heap.objs.size + 1) scope.names (cloFrom X.env.cells scope.names [])) fp
  show codeAny _ _ (.compStart c 0 (.ref it) (.ref D) (compEnvC scope (cellsFrom (s3.heap.objs.size + 1) scope.names (cloFrom X.env.cells scope.names [])) s3.heap.objs.size X.env)) (compPost (model X.prog X.w) X.A X.xe use Qf (.ref D) s3.heap.objs.size) { s3 with heap := pushCells (s3.heap.push { cls := .type "dict", data := .dict #[] }) scope.names }
  have nfp : ∀ b ∈ fp, (upd H2 D (u0 D)) b = none := fun b hb => (f3 b hb).1.1
  generalize hce : compEnvC scope (cellsFrom (s3.heap.objs.size + 1) scope.names (cloFrom X.env.cells scope.names [])) s3.heap.objs.size X.env = ce at I4 pg pt pb ⊢
  have cL : ce.locals = s3.heap.objs.size := by subst hce; rfl
  generalize hH3 : upd H2 D (u0 D) = H3 at I3 I4 pg pt pb lp nfp f3
  generalize hs4 : ({ s3 with heap := pushCells (s3.heap.push { cls := .type "dict", data := .dict #[] }) scope.names } : Shared) = s4 at I4 ⊢
  have st4 : tn 0 s4.heap := T.keep _ _ _ st3 fun b _ o e => by rw [← hs4]; exact pushCells_keeps _ _ _ _ (Heap.get?_push_of_some _ e)
  have fpk : ∀ b ∈ fp, FpOk (X.blk s3 H3 scope ce fp) [] H3 b := fun b hb =>
    ⟨nfp b hb, (I4.ok.exf b hb).1, I4.ok.exfs b hb, .inl hb, fun x c e => (I4.ok.exf b hb).2 x c e, fun p hp => absurd (show p ∈ ([] : List (Addr × Obj)) ++ [] from hp) (by simp)⟩
  have loop := loop_run (Y := X.blk s3 H3 scope ce fp) rfl hc C (ht _ _ _) pg pt pb T I4 st4 fpk lp
  have loop' : codeAny (model X.prog X.w) X.A (.compLoop c 0 (.ref it) (.ref D) ce) (compPost (model X.prog X.w) X.A X.xe use Qf (.ref D) s3.heap.objs.size) s4 := by
    refine codeAny_mono loop fun r s6 hr => ?_
    cases r with
    | error e => exact hr.elim
    | ok f =>
      obtain ⟨rfl, H5, I6, qq⟩ := hr
      have I7 : Inv X pins σ H5 s6 := I3.call' (ch := fp) I6.os I6.base I6.hok I6.bare fun b hb => ⟨(f3 b hb).1.2.2.2.1, (f3 b hb).1.2.1, (f3 b hb).1.2.2.2.2.1, (f3 b hb).1.2.2.2.2.2⟩
      have nC : H5 s3.heap.objs.size = none := by
        have z : H5 ce.locals = none := I6.free
        rw [cL] at z
        exact z
      obtain ⟨m, hn, _⟩ := I6.loc
      have hn : s6.heap.Ns ce.locals m := hn
      rw [cL] at hn
      exact hRR D s3.heap.objs.size s6 m H5 I7 qq hn (I3.fpOk (Nat.le_refl _) nC)
  exact C.s loop' (T.self X.A 0 _ _ _ st4 loop')
/-- an expression that may be stored while it is made -/
structure PCo (X : Cx) (c : Expr) (t : TE) : Prop where
  pe : PE X c t
  ps : ∀ {i : Nat} {y : Str} {py spos : Pos}, X.N.Nodup → X.N[i]? = some y → X.env.scope.names.lookup y = some .local → swapsWith c (some (.Name y py)) spos.line X.env = pure true → PS X (.Assign [.Name y py] c spos) (tAsg t (gName i))
def tComp (F : Cx) (wi : TI) (g : TG) (tt : TT) (tb : Addr → TB) (u0 : Addr → HO) (vs : List Nat) : TE := fun σ H Q => wi σ H fun J H1 => ∀ D, H1 D = none → (D == sysModules) = false → tLoop J g tt (tb D) vs (wipe σ vs) (upd H1 D (u0 D)) fun H' => Q (.ref D) H'
theorem pco_comp {X : Cx} {c tg iter : Expr} {ifs : List Expr} {gs : List Comprehension} {scope : Scope} {own : List (Str × Nat)} {p pos' : Pos} {wi : TI} {g : TG} {tt : TT} {tb : Addr → TB} {mk : Sem Value} {o0 : Obj} {u0 : Addr → HO} {bd : Value → Env → Sem Unit}
    (heval : eval c X.env = comprehension c scope X.env pos' mk false (eval iter X.env) none) (huse : ∀ u : Value → Sem Unit, evalThenUse c X.env u = (do let _ ← comprehension c scope X.env pos' mk false (eval iter X.env) (some u)))
    (hc : X.calm = true) (hN : X.N.Nodup) (hcl : clausesOf c = ⟨tg, iter, ifs, 0⟩ :: gs) (C : CompC c 0) (ht : ∀ it acc env, compTurn c 0 it acc env = turnOf c 0 p tg ifs (bd acc env) it acc env) (hi : PI X tg iter wi) (ok : BlkOk X.N X.env.scope scope own)
    (hmk : ∀ (s : Shared) (Q : Value → Shared → Prop), Q (.ref s.heap.objs.size) { s with heap := s.heap.push o0 } → wpAny (model X.prog X.w) X.A mk Q X.xe s) (hfr : o0.isFreed = false)
    (hu0 : ∀ (H : Hp) (h : Heap), sysModules < h.objs.size → ObjOk X.prog X.w H (h.push o0) h.objs.size (u0 h.objs.size))
    (hg : ∀ (s : Shared) (H : Hp) (C : Addr) (cl : List (Str × Addr)) (fp : List Addr), PG (X.blk s H scope (compEnvC scope cl C X.env) fp) tg g) (ht' : ∀ (s : Shared) (H : Hp) (C : Addr) (cl : List (Str × Addr)) (fp : List Addr), PTs (X.blk s H scope (compEnvC scope cl C X.env) fp) ifs tt)
    (hb : ∀ (D : Addr) (s : Shared) (H : Hp) (C : Addr) (cl : List (Str × Addr)) (fp : List Addr), PB (X.blk s H scope (compEnvC scope cl C X.env) fp) (own.map (·.2)) (bd (.ref D) (compEnvC scope cl C X.env)) (tb D)) (hs : ∀ x, foldedSetIterable iter X.env x = pure x) :
    PCo X c (tComp X wi g tt tb u0 (own.map (·.2))) where
  pe := ⟨fun pins s σ H Q I h => by
    rw [heval]
    refine comp_run hc hN I hcl C ht hi ok hmk hfr hu0 hg ht' hb hs h fun D C s' m H' I' q hn f => ⟨m, hn, fun h'' sb => ?_⟩
    obtain ⟨f0, f1, f2, f3, f4, f5⟩ := f
    exact ⟨.ref D, H', I'.turned (t' := s'.toks) (fun b o hb e => (sb.2 b hb).trans e) f0 f1 f3 f4 f5, rfl, q⟩⟩
  ps := fun {i y py spos} hN hy hyl hsw => ⟨fun pins s σ H D I h => by
    rw [exec_Assign_Name_used _ _ _ _ hsw]
    refine wpAny_bind (wpAny_standAt (wpAny_bind ?_))
    rw [huse]
    have h : tComp X wi g tt tb u0 (own.map (·.2)) σ H (fun x H1 => gName i x σ H1 D.nx) := h
    refine wpAny_bind (thn (comp_run (Q := fun x H1 => gName i x σ H1 D.nx) (Qf := fun _ s' => SP X pins D .next s') hc hN I hcl C ht hi ok hmk hfr hu0 hg ht' hb hs h fun L C s' m H' I' q hn f => ?_) fun _ s' hq => wpAny_pure (wpAny_pure hq))
    show wpAny _ _ (assign (.Name y py) X.env (.ref L)) _ _ _
    refine wpAny_assign_Name (store_ok2 (v := V.ref L) I' hN hy (.inl hyl) rfl (fun s2 I2 ⟨a, sb, ha⟩ => ?_) (.inr hyl))
    obtain ⟨f0, f1, f2, f3, f4, f5⟩ := f
    have haC : C ≠ a := by
      rcases ha with z | z
      · rw [z]; exact f1
      · exact fun e => f4 y a z e.symm
    refine ⟨m, hn.sameBut sb haC, fun h3 sb3 => ?_⟩
    exact ⟨_, H', I2.turned (t' := s2.toks) (fun b o hb e => (sb3.2 b hb).trans e) f0 f1 f3 f4 f5, q⟩⟩
/-! ### the kinds -/
theorem compC_dict {kx vx : Expr} {gens : List Comprehension} {scope : Scope} {pos : Pos} {k : Nat} {g : Comprehension} (hg : gens[k]? = some g) (ha : g.is_async = 0) : CompC (.DictComp kx vx gens scope pos) k where
  q := fun _ _ _ => rfl
  u := fun _ _ _ _ => rfl
  d := fun _ _ _ _ _ => rfl
  s := by
    intro prog w A R s it acc env h0 h
    refine codeAny_of_tree ?_
    show wpAny _ A ((compStart (.DictComp kx vx gens scope pos) k it acc env).onRaise (fun x => do noteFrame x env; standAt theWindowsPlace)) _ _ s
    refine wpAny_notedAt ?_
    unfold compStart
    have e : (clausesOf (.DictComp kx vx gens scope pos))[k]? = some g := hg
    rw [e]
    have e2 : (some g).elim false (fun x => x.is_async != 0) = false := by show (g.is_async != 0) = false; rw [ha]; rfl
    rw [e2]
    show wpAny _ A (ask >>= _) _ _ s
    refine wpAny_bind (wpAny_askSetting (wpAny_ite ?_))
    split
    · first
        | exact wpAny_bind (wpAny_pure (wpAny_pure (And.intro rfl h0)))
        | exact wpAny_pure (And.intro rfl h0)
    · first
        | exact wpAny_bind (wpAny_rule (wpAny_bind (wpAny_standAt (wpAny_bind (wpAny_mono h (fun it' s' h' => wpAny_pure (And.intro rfl h')) fun _ _ x => x)))))
        | (refine wpAny_bind (wpAny_rule ?_); show wpAny _ _ (standAt g.iter.pos >>= _) _ _ s; exact wpAny_bind (wpAny_standAt (wpAny_bind (wpAny_mono h (fun it' s' h' => wpAny_pure (And.intro rfl h')) fun _ _ x => x))))
theorem compC_list {elt : Expr} {gens : List Comprehension} {scope : Scope} {pos : Pos} {k : Nat} {g : Comprehension} (hg : gens[k]? = some g) (ha : g.is_async = 0) : CompC (.ListComp elt gens scope pos) k where
  q := fun _ _ _ => rfl
  u := fun _ _ _ _ => rfl
  d := fun _ _ _ _ _ => rfl
  s := by
    intro prog w A R s it acc env h0 h
    refine codeAny_of_tree ?_
    show wpAny _ A ((compStart (.ListComp elt gens scope pos) k it acc env).onRaise (fun x => do noteFrame x env; standAt theWindowsPlace)) _ _ s
    refine wpAny_notedAt ?_
    unfold compStart
    have e : (clausesOf (.ListComp elt gens scope pos))[k]? = some g := hg
    rw [e]
    have e2 : (some g).elim false (fun x => x.is_async != 0) = false := by show (g.is_async != 0) = false; rw [ha]; rfl
    rw [e2]
    show wpAny _ A (ask >>= _) _ _ s
    refine wpAny_bind (wpAny_askSetting (wpAny_ite ?_))
    split
    · first
        | exact wpAny_bind (wpAny_pure (wpAny_pure (And.intro rfl h0)))
        | exact wpAny_pure (And.intro rfl h0)
    · first
        | exact wpAny_bind (wpAny_rule (wpAny_bind (wpAny_standAt (wpAny_bind (wpAny_mono h (fun it' s' h' => wpAny_pure (And.intro rfl h')) fun _ _ x => x)))))
        | (refine wpAny_bind (wpAny_rule ?_); show wpAny _ _ (standAt g.iter.pos >>= _) _ _ s; exact wpAny_bind (wpAny_standAt (wpAny_bind (wpAny_mono h (fun it' s' h' => wpAny_pure (And.intro rfl h')) fun _ _ x => x))))
theorem compC_set {elt : Expr} {gens : List Comprehension} {scope : Scope} {pos : Pos} {k : Nat} {g : Comprehension} (hg : gens[k]? = some g) (ha : g.is_async = 0) : CompC (.SetComp elt gens scope pos) k where
  q := fun _ _ _ => rfl
  u := fun _ _ _ _ => rfl
  d := fun _ _ _ _ _ => rfl
  s := by
    intro prog w A R s it acc env h0 h
    refine codeAny_of_tree ?_
    show wpAny _ A ((compStart (.SetComp elt gens scope pos) k it acc env).onRaise (fun x => do noteFrame x env; standAt theWindowsPlace)) _ _ s
    refine wpAny_notedAt ?_
    unfold compStart
    have e : (clausesOf (.SetComp elt gens scope pos))[k]? = some g := hg
    rw [e]
    have e2 : (some g).elim false (fun x => x.is_async != 0) = false := by show (g.is_async != 0) = false; rw [ha]; rfl
    rw [e2]
    show wpAny _ A (ask >>= _) _ _ s
    refine wpAny_bind (wpAny_askSetting (wpAny_ite ?_))
    split
    · first
        | exact wpAny_bind (wpAny_pure (wpAny_pure (And.intro rfl h0)))
        | exact wpAny_pure (And.intro rfl h0)
    · first
        | exact wpAny_bind (wpAny_rule (wpAny_bind (wpAny_standAt (wpAny_bind (wpAny_mono h (fun it' s' h' => wpAny_pure (And.intro rfl h')) fun _ _ x => x)))))
        | (refine wpAny_bind (wpAny_rule ?_); show wpAny _ _ (standAt g.iter.pos >>= _) _ _ s; exact wpAny_bind (wpAny_standAt (wpAny_bind (wpAny_mono h (fun it' s' h' => wpAny_pure (And.intro rfl h')) fun _ _ x => x))))
/-! ### what a comprehension does with its values -/
def emL (elt : Expr) (acc : Value) (env : Env) : Sem Unit := do let _ ← call (.builtin "list.append") [acc, ← eval elt env]
def emS (elt : Expr) (acc : Value) (env : Env) : Sem Unit := do
  let v ← eval elt env
  standAt elt.pos
  let _ ← call (.builtin "set.add") [acc, v]
def emD (k v : Expr) (acc : Value) (env : Env) : Sem Unit := do
  let kv ← eval k env
  let vv ← holding [kv] (eval v env)
  match acc with
  | .ref d => do
    standAt { k.pos with endLine := v.pos.endLine, endCol := v.pos.endCol }
    holding [kv, vv] (dictSet d kv vv)
  | _ => unsupported "internal:dictcomp"
section
variable {Y : Cx} {elt kx vx : Expr} {te tk tv : TE} {vs : List Nat} {D : Addr}
theorem weakW {pins : List (Addr × Obj)} {s : Shared} {σ : L2.St} {H : Hp} (I : Inv Y pins σ H s) (vs : List Nat) : Inv Y pins (wipe σ vs) H s := I.weak (wipe_length _ _) fun _ _ e => (wipe_some e).1
theorem pb_list (hx : Y.xe = fun _ _ => False) (pe : PE Y elt te) : PB Y vs (emL elt (.ref D) Y.env) (fun σ H Q => te σ H fun y H1 => ∃ acc, H1 D = some (.lst acc) ∧ acc.length < sizeLine ∧ Q (upd H1 D (.lst (acc ++ [y])))) := by
  refine ⟨fun pins s σ H Q I h => ?_⟩
  have q := pe.run pins s σ H _ I h
  rw [hx] at q
  unfold emL
  refine wpAny_bind (thnF q fun u s1 ⟨y, H1, I1, r, acc, hD, hz, k⟩ => wpAny_bind (app_ok I1 hD hz r fun s2 I2 => wpAny_pure ⟨_, weakW I2 vs, k⟩))
theorem nd_dictSet {Y : Cx} {pins : List (Addr × Obj)} {σ : L2.St} {H : Hp} {s : Shared} {d a : Addr} {xs : List DE} {k : NestedKey} {A : Around} {E : Value → Shared → Prop} {v : V} {u : Value} {Q : Unit → Shared → Prop} (hu : A.units + 16 < cLine) (I : Inv Y pins σ H s) (D : DAt Y.w H d xs) (kk : DKs H xs)
    (nk : NK H k (.ref a)) (dp : k.depth ≤ 8) (rv : RelV v u) (hl : xs.length < sizeLine) (h : ∀ o s', DObj Y.w o (putD xs k a v) → Inv Y pins σ (upd H d (pin d o)) s' → Q () s') : wpAny (model Y.prog Y.w) A (dictSet d (.ref a) u) Q E s := by
  obtain ⟨o, ho, D, hs, hz⟩ := D
  obtain ⟨us, r, hd⟩ := D.dict I (pin_at I ho) kk
  have hl' : us.length = xs.length := (Paired.length r).symm
  refine wpAny_dictSet_heap (hsz := by rw [hl']; exact hz) (show A.units + 8 < cLine by omega) (nk.key I dp) hd fun h' hd' sb => ?_
  obtain ⟨o', D', I'⟩ := nd_write I ho hs hd' (r.put k a rv) (Nat.le_trans (putD_len _ _ _ _) hl) sb (s.toks + (nestedKind Y.prog Y.w).draws k)
  exact h o' _ D' I'
theorem pb_dict (hx : Y.xe = fun _ _ => False) (hu : Y.A.units + 16 < cLine) (pk : PE Y kx tk) (pv : PE Y vx tv) : PB Y vs (emD kx vx (.ref D) Y.env) (fun σ H Q => tk σ H fun y H1 => tv σ H1 fun z H2 => ∃ a k xs, y = .ref a ∧ DAt Y.w H2 D xs ∧ DKs H2 xs ∧ NK H2 k (.ref a) ∧ k.depth ≤ 8 ∧ xs.length < sizeLine ∧
    ∀ o, DObj Y.w o (putD xs k a z) → Q (upd H2 D (pin D o))) := by
  refine ⟨fun pins s σ H Q I h => ?_⟩
  have q := pk.run pins s σ H _ I h
  rw [hx] at q
  unfold emD
  refine wpAny_bind (thnF q fun u s1 ⟨y, H1, I1, r, h1⟩ => ?_)
  have q1 := pv.run pins s1 σ H1 _ I1 h1
  rw [hx] at q1
  refine wpAny_bind (wpAny_holding (thnF q1 fun u2 s2 ⟨z, H2, I2, r2, a, k, xs, ey, hD, kk, nk, dp, hl, hq⟩ => ?_))
  subst ey
  cases r
  exact wpAny_bind (wpAny_standAt (wpAny_holding (nd_dictSet hu I2 hD kk nk dp r2 hl fun o s3 ho I3 => ⟨_, weakW I3 vs, hq o ho⟩)))
/-- found.add(x), x a tuple of ints -/
theorem nt_add {pins : List (Addr × Obj)} {σ : L2.St} {H : Hp} {s : Shared} {d a : Addr} {L : List (Addr × List Int)} {k : List Int} {E : Value → Shared → Prop} {Q : Value → Shared → Prop} (hu : Y.A.units + 16 < cLine) (I : Inv Y pins σ H s) (hd : H d = some (SetTO Y.prog Y.w d L)) (kk : ∀ p ∈ L, H p.1 = some (.tup (p.2.map V.int)))
    (ka : H a = some (.tup (k.map V.int))) (hfew : L.length + 1 < 64) (h : ∀ L' s', (k ∈ L.map (·.2) → L' = L) → (k ∉ L.map (·.2) → L'.Perm ((a, k) :: L)) → Inv Y pins σ (upd H d (SetTO Y.prog Y.w d L')) s' → Q .none s') :
    wpAny (model Y.prog Y.w) Y.A (call (.builtin "set.add") [.ref d, .ref a]) Q E s := by
  have isT : ∀ {b : Addr} {ns : List Int}, H b = some (.tup (ns.map V.int)) → IsT Y.prog Y.w s.heap ns b := fun e => I.isT (.inl (.inl e))
  obtain ⟨es, ep, t, R⟩ := (show SetT0 Y.prog Y.w s.heap d L from (I.hok d _ hd).1).full fun p hp => isT (kk p hp)
  obtain ⟨o, ho, hex, hdat⟩ := R.ob
  have hT : s.TypeIs (.ref d) "set" := ⟨o, ho, hex.1⟩
  refine wpAny_call_entry F.slot_set_add hT F.entry_set_add ?_ (F.args_set_add_2 _ _)
  unfold Builtin.«set.add» Builtin.Frozenset.oneOther
  simp only [List.isEmpty_nil, bind_assoc]
  unfold Builtin.Frozenset.addrOf setAdd
  refine wpAny_bind (wpAny_pure ?_)
  try dsimp only
  refine wpAny_bind (wpAny_pure ?_)
  try dsimp only
  refine wpAny_bind ?_
  refine wpAny_holding ?_
  have hu1 : Y.A.in1.units < cLine := by rw [Around.in1_units]; omega
  refine wpAny_bind (wpAny_pyHash_tuple hu1 (isT ka) ?_)
  refine add_at (s := { s with toks := s.toks + (k.length + 1) }) R (isT ka) hu1 hfew fun b h' L' es' ep' t' sb R' c1 c2 => ?_
  show wpAny _ _ (ret Value.none) _ _ _
  refine wpAny_pure ⟨_, rfl, h L' _ c1 c2 (I.write (by rw [hd]; exact True.intro) (.inl rfl) (fun b u hb q => (sb.2 b hb).trans q) ?_ (setTO_new R'.t0))⟩
  obtain ⟨o', ho', _⟩ := R'.ob
  exact ⟨o', ho'⟩
theorem pb_set (hx : Y.xe = fun _ _ => False) (hu : Y.A.units + 16 < cLine) (pe : PE Y elt te) : PB Y vs (emS elt (.ref D) Y.env) (fun σ H Q => te σ H fun y H1 => ∃ a k L, y = .ref a ∧ H1 D = some (SetTO Y.prog Y.w D L) ∧ (∀ p ∈ L, H1 p.1 = some (.tup (p.2.map V.int))) ∧ H1 a = some (.tup (k.map V.int)) ∧ L.length + 1 < 64 ∧
    ∀ L', (k ∈ L.map (·.2) → L' = L) → (k ∉ L.map (·.2) → L'.Perm ((a, k) :: L)) → Q (upd H1 D (SetTO Y.prog Y.w D L'))) := by
  refine ⟨fun pins s σ H Q I h => ?_⟩
  have q := pe.run pins s σ H _ I h
  rw [hx] at q
  unfold emS
  refine wpAny_bind (thnF q fun u s1 ⟨y, H1, I1, r, a, k, L, ey, hD, kk, ka, hl, hq⟩ => ?_)
  subst ey
  cases r
  exact wpAny_bind (wpAny_standAt (wpAny_bind (nt_add hu I1 hD kk ka hl fun L' s2 c1 c2 I2 => wpAny_pure ⟨_, weakW I2 vs, hq L' c1 c2⟩)))
end
end Ly
/-! The layer's dicts with nested keys; comprehensions of any kind in the layer. -/
namespace Ly
open PySem PySem.Spec PyProof.Rows L2
/-! ### dicts -/
def pNK (k : NestedKey) : Pr := ⟨fun P v => NK P k v, fun e h => NK.up e _ _ h⟩
abbrev EP (P : Hp) (Es : List (NestedKey × Pr)) (xs : List DE) : Prop := Paired (fun (e : NestedKey × Pr) (x : DE) => x.1 = e.1 ∧ e.2.p P x.2.2) Es xs
theorem EP.up {P P' : Hp} {Es : List (NestedKey × Pr)} {xs : List DE} (h : EP P Es xs) (e : Same P P') : EP P' Es xs := by
  induction h with
  | nil => exact .nil
  | cons r _ ih => exact .cons ⟨r.1, Pr.up _ e r.2⟩ ih
structure DD (w : World) (P : Hp) (Es : List (NestedKey × Pr)) (d : Addr) (o : Obj) (xs : List DE) : Prop where
  ob : DObj w o xs
  sm : (d == sysModules) = false
  sz : xs.length ≤ sizeLine
  ks : DKs P xs
  ep : EP P Es xs
theorem DD.up {w : World} {P P' : Hp} {Es : List (NestedKey × Pr)} {d : Addr} {o : Obj} {xs : List DE} (h : DD w P Es d o xs) (e : Same P P') : DD w P' Es d o xs :=
  ⟨h.ob, h.sm, h.sz, fun x hx => ⟨NK.up e _ _ (h.ks x hx).1, (h.ks x hx).2⟩, h.ep.up e⟩
/-- a dict that is never changed any more -/
def pD (w : World) (Es : List (NestedKey × Pr)) : Pr := ⟨fun P v => ∃ d o xs, v = .ref d ∧ P d = some (pin d o) ∧ DD w P Es d o xs, fun e ⟨d, o, xs, h1, h2, h3⟩ => ⟨d, o, xs, h1, e _ _ h2, h3.up e⟩⟩
/-- a slot's own dict -/
def oD (w : World) (Es : List (NestedKey × Pr)) : Ow := ⟨fun P H v fp => ∃ d o xs, v = .ref d ∧ fp = [d] ∧ H d = some (pin d o) ∧ DD w P Es d o xs,
  fun {P P' H H' v fp} e k ⟨d, o, xs, h1, h2, h3, h4⟩ => ⟨d, o, xs, h1, h2, by subst h2; rw [k d (by simp)]; exact h3, h4.up e⟩⟩
def atE (Es : List (NestedKey × Pr)) (k : NestedKey) : Option Pr := (Es.find? fun x => decide (x.1 = k)).map (·.2)
def putE (Es : List (NestedKey × Pr)) (k : NestedKey) (R : Pr) : List (NestedKey × Pr) := if (atE Es k).isSome then Es.map (fun x => if x.1 = k then (x.1, R) else x) else Es ++ [(k, R)]
theorem EP.at {P : Hp} {Es : List (NestedKey × Pr)} {xs : List DE} (h : EP P Es xs) (k : NestedKey) : (atE Es k = none ∧ atD xs k = none) ∨ ∃ R v, atE Es k = some R ∧ atD xs k = some v ∧ R.p P v := by
  unfold atE atD
  induction h with
  | nil => exact .inl ⟨rfl, rfl⟩
  | @cons e x Es xs r t ih =>
    rw [List.find?_cons, List.find?_cons]
    by_cases q : e.1 = k
    · have q' : x.1 = k := r.1.trans q
      simp only [q, q', decide_true]
      exact .inr ⟨e.2, x.2.2, rfl, rfl, r.2⟩
    · have q' : ¬ x.1 = k := fun z => q (r.1.symm.trans z)
      simp only [q, q', decide_false]
      exact ih
theorem EP.atS {P : Hp} {Es : List (NestedKey × Pr)} {xs : List DE} (h : EP P Es xs) (k : NestedKey) : (atD xs k).isSome = (atE Es k).isSome := by
  rcases h.at k with ⟨a, b⟩ | ⟨R, v, a, b, _⟩ <;> rw [a, b] <;> rfl
theorem EP.some {P : Hp} {Es : List (NestedKey × Pr)} {xs : List DE} (h : EP P Es xs) {k : NestedKey} {R : Pr} (e : atE Es k = some R) : ∃ v, atD xs k = some v ∧ R.p P v := by
  rcases h.at k with ⟨a, b⟩ | ⟨R', v, a, b, r⟩
  · rw [e] at a; cases a
  · rw [e] at a; cases a; exact ⟨v, b, r⟩
theorem EP.mapPut {P : Hp} {Es : List (NestedKey × Pr)} {xs : List DE} (h : EP P Es xs) {k : NestedKey} {R : Pr} {v : V} (r : R.p P v) : EP P (Es.map fun x => if x.1 = k then (x.1, R) else x) (xs.map fun x => if x.1 = k then (x.1, x.2.1, v) else x) := by
  induction h with
  | nil => exact .nil
  | @cons e x Es xs q t ih =>
    refine .cons ?_ ih
    dsimp only
    by_cases c : e.1 = k
    · have c' : x.1 = k := q.1.trans c
      rw [if_pos c, if_pos c']
      exact ⟨q.1, r⟩
    · have c' : ¬ x.1 = k := fun z => c (q.1.symm.trans z)
      rw [if_neg c, if_neg c']
      exact q
theorem EP.snoc {P : Hp} {Es : List (NestedKey × Pr)} {xs : List DE} (h : EP P Es xs) {e : NestedKey × Pr} {x : DE} (r : x.1 = e.1 ∧ e.2.p P x.2.2) : EP P (Es ++ [e]) (xs ++ [x]) := by
  induction h with
  | nil => exact .cons r .nil
  | cons q t ih => exact .cons q ih
theorem EP.put {P : Hp} {Es : List (NestedKey × Pr)} {xs : List DE} (h : EP P Es xs) (k : NestedKey) (a : Addr) {R : Pr} {v : V} (r : R.p P v) : EP P (putE Es k R) (putD xs k a v) := by
  unfold putE putD
  rw [h.atS k]
  by_cases c : (atE Es k).isSome = true
  · rw [if_pos c, if_pos c]
    exact h.mapPut r
  · rw [if_neg c, if_neg c]
    exact h.snoc ⟨rfl, r⟩
theorem DKs.put {P : Hp} {xs : List DE} (h : DKs P xs) {k : NestedKey} {a : Addr} {v : V} (nk : NK P k (.ref a)) (dp : k.depth ≤ 8) : DKs P (putD xs k a v) := by
  intro x hx
  unfold putD at hx
  split at hx
  · obtain ⟨y, hy, rfl⟩ := List.mem_map.mp hx
    by_cases c : y.1 = k
    · rw [if_pos c]; exact h y hy
    · rw [if_neg c]; exact h y hy
  · rcases List.mem_append.mp hx with z | z
    · exact h x z
    · have e : x = (k, a, v) := by simpa using z
      subst e
      exact ⟨nk, dp⟩
theorem DKs.hp {P H : Hp} (l : Ld P H) {xs : List DE} (h : DKs P xs) : DKs H xs := fun x hx => by
  refine ⟨?_, (h x hx).2⟩
  have key : ∀ {k : NestedKey} {v : V}, NK P k v → NK H k v := fun {k v} z => nkH l k v z
  exact key (h x hx).1
where
  nkH {P H : Hp} (l : Ld P H) : ∀ (k : NestedKey) (v : V), NK P k v → NK H k v
    | .none, _, h => by cases h
    | .num i, _, h => by cases h; exact .num i
    | .text x, _, h => by cases h; exact .text x
    | .tup ks, _, h => by
      cases h with
      | tup h1 h2 => exact .tup (l.tup _ _ h1) (nksH l ks _ h2)
  nksH {P H : Hp} (l : Ld P H) : ∀ (ks : List NestedKey) (vs : List V), NKs P ks vs → NKs H ks vs
    | [], _, h => by cases h; exact .nil
    | k :: ks, _, h => by
      cases h with
      | cons h1 h2 => exact .cons (nkH l k _ h1) (nksH l ks _ h2)
theorem nk_hp {P H : Hp} (l : Ld P H) {k : NestedKey} {v : V} (h : NK P k v) : NK H k v := DKs.hp.nkH l k v h
theorem nk_ref {P : Hp} {ks : List NestedKey} {v : V} (h : NK P (.tup ks) v) : ∃ a, v = .ref a := by cases h; exact ⟨_, rfl⟩
/-- the entry is put: the new object -/
theorem DD.put {w : World} {P : Hp} {Es : List (NestedKey × Pr)} {d : Addr} {o o' : Obj} {xs : List DE} (h : DD w P Es d o xs) {k : NestedKey} {a : Addr} {v : V} {R : Pr} (r : R.p P v) (nk : NK P k (.ref a)) (dp : k.depth ≤ 8) (hl : xs.length < sizeLine) (ho : DObj w o' (putD xs k a v)) : DD w P (putE Es k R) d o' (putD xs k a v) :=
  ⟨ho, h.sm, Nat.le_trans (putD_len _ _ _ _) hl, h.ks.put nk dp, h.ep.put k a r⟩
theorem EP.len {P : Hp} {Es : List (NestedKey × Pr)} {xs : List DE} (h : EP P Es xs) : xs.length = Es.length := (Paired.length h).symm
/-! ### a fresh object -/
section
variable {ι : Type} (F : ι → Cx)
def JN (e : Expr) (ss : List Sl) (O : Ow) (ss' : List Sl) : Prop :=
  ∀ (xs : List Addr) (P0 H0 : Hp) (ow : List Addr) (σ : L2.St) (P H : Hp), S8 xs P0 H0 ow σ P H ss → ∀ Q : VK,
    (∀ v fp P2 H2, S8 xs P0 H0 ow σ P2 H2 ss' → Same P P2 → (∀ a ∈ fp, H a = none ∧ P2 a = none ∧ H2 a ≠ none) → O.ok P2 H2 v fp → Q v H2) → XE F e σ H Q
end
section
variable {ι : Type} {F : ι → Cx} {X : Cx} {e : Expr} {ss ss1 : List Sl} {Rs : List Pr} {O : Ow} {w : World} {Es : List (NestedKey × Pr)}
theorem JF.jn (h : JF F e ss Rs ss1) : JN F e ss (oL Rs) ss1 := fun xs P0 H0 ow σ P H S Q k =>
  h _ _ _ _ _ _ _ S _ fun l vs P2 H2 S2 e2 n np hl r => k (.ref l) [l] P2 H2 S2 e2 (fun a ha => by
    have : a = l := by simpa using ha
    subst this
    exact ⟨n, np, by rw [hl]; exact Option.some_ne_none _⟩) ⟨l, vs, rfl, rfl, hl, r⟩
theorem JN.is {O' : Ow} (h : JN F e ss O ss1) (q : O = O') : JN F e ss O' ss1 := q ▸ h
/-- a fresh dict is never changed any more -/
theorem JN.jeD (h : JN F e ss (oD w Es) ss1) : JE F e ss (pD w Es) ss1 := fun xs P0 H0 ow σ P H S Q k =>
  h _ _ _ _ _ _ _ S.here _ fun v fp P2 H2 S2 e2 nf ⟨d, o, xs, h1, h2, h3, h4⟩ => by
    subst h1 h2
    obtain ⟨n, np, _⟩ := nf d (by simp)
    have no : d ∉ ow := fun z => (S.ows d z).2.1 n
    have S3 := S2.freeze n no no np h3
    have sm : Same P2 (upd P2 d (pin d o)) := same_upd np
    exact k _ _ H2 (S.back S3 fun a ha => .inl ha) (e2.trans sm) ⟨d, o, xs, rfl, upd_same, h4.up sm⟩
variable {xs : List Addr} {P0 H0 : Hp} {ow : List Addr} {σ : L2.St} {P H : Hp} {D : Ends} {rest : List Stmt} {pos : Pos}
theorem w_asgN (i : Nat) {x : Str} {p : Pos} (S : S8 xs P0 H0 ow σ P H ss) (h : JN (C1 X) e ss O ss1) (k : ∀ ow σ P H, S8 xs P0 H0 ow σ P H (ss1.set i (.ow O)) → XS X rest D σ H) (hN : X.N.Nodup) (hl : ∃ s, ss1[i]? = some s := by exact ⟨_, rfl⟩)
    (hi : X.N[i]? = some x := by rfl) (hx : Loc X.env.scope x := by first | exact .inl rfl | exact .inr rfl) (hs : swapsWith e (some (.Name x p)) pos.line X.env = pure false := by rfl) (hf : X.fn x = true ∨ X.env.scope.names.lookup x = some .local := by first | exact .inr rfl | exact .inl rfl) :
    XS X (.Assign [.Name x p] e pos :: rest) D σ H :=
  w_cons ⟨_, ps_set hN hi hx (xe (F := C1 X) ()) hs hf, h _ _ _ _ _ _ _ S.here _ fun v fp P2 H2 S2 _ nf r => by
    have S3 := S.back S2 fun a ha => .inl ha
    obtain ⟨ow', S4⟩ := S3.own hl.choose_spec (O := O) (v := v) (fp := fp) r (fun a ha => by
      obtain ⟨n, np, h2⟩ := nf a ha
      exact ⟨np, h2, S.gone n, fun z => (S.ows a z).2.1 n⟩)
    exact k ow' _ P2 H2 S4⟩
/-- what a slot owns is never changed any more -/
theorem S8.stillG {i : Nat} {O : Ow} {R : Pr} (S : S8 xs P0 H0 ow σ P H ss) (h : ss[i]? = some (.ow O)) (hO : ∀ (P H : Hp) (v : V) (fp : List Addr), O.ok P H v fp → ∃ l o, v = .ref l ∧ fp = [l] ∧ H l = some o ∧ ∀ P', Same P P' → P' l = some o → R.p P' v) (hx : Away xs ss i := by exact .inl rfl) :
    ∃ ow' P', S8 xs P0 H0 ow' σ P' H (ss.set i (.pr R)) ∧ (∀ a ∈ ow', a ∈ ow) ∧ Same P P' := by
  obtain ⟨v, fp, e, q, sub, put⟩ := S.sl.focus h
  cases q with
  | @ow _ v _ r =>
    obtain ⟨l, o, rfl, rfl, hl, rs⟩ := hO _ _ _ _ r
    have hlo := sub l (by simp)
    have np := (S.ows l hlo).1
    have nx : l ∉ xs := by
      rcases hx with rfl | ⟨j, O', hj, hO', hs⟩
      · simp
      · obtain ⟨ow1, g1, m1⟩ := put P H [] (some (.ref l)) .un (Same.refl _) (fun _ _ _ => rfl) .un (fun a z => absurd z (by simp))
        obtain ⟨u, f1, _, q1, sub1, _⟩ := g1.focus (i := j) (s := .ow O') (by rw [List.getElem?_set_ne hj]; exact hO')
        intro hm
        cases q1 with
        | ow r1 => exact (m1 l (sub1 l (hs _ _ _ _ r1 l hm))).elim (fun z => absurd z (by simp)) (fun z => z.2 (by simp))
    have hn : H0 l = none := (S.ows l hlo).2.2.elim id fun z => absurd z nx
    have sm : Same P (upd P l o) := same_upd np
    obtain ⟨ow', g, m⟩ := put (upd P l o) H [] (some (.ref l)) (.pr R) sm (fun _ _ _ => rfl) (.pr (rs _ sm upd_same)) (fun a z => absurd z (by simp))
    have m' : ∀ a ∈ ow', a ∈ ow ∧ a ≠ l := fun a ha => (m a ha).elim (fun z => absurd z (by simp)) (fun z => ⟨z.1, fun w => z.2 (by simp [w])⟩)
    have hσ : σ.set i (some (.ref l)) = σ := by
      refine List.ext_getElem? fun j => ?_
      by_cases hj : i = j
      · subst hj
        rw [List.getElem?_set_self (List.getElem?_eq_some_iff.mp e).1, e]
      · rw [List.getElem?_set_ne hj]
    rw [hσ] at g
    refine ⟨ow', _, ⟨S.p0.trans sm, fun b u eb => ?_, S.h0, fun b hb eb => ?_, fun a ha => ?_, S.xh, g⟩, fun a ha => (m' a ha).1, sm⟩
    · by_cases q : b = l
      · subst q
        rw [upd_same] at eb
        cases eb
        exact .inl hl
      · rw [upd_ne q] at eb
        exact S.ld b u eb
    · rw [upd_ne (fun z => hb (by rw [z]; exact hn))]
      exact S.nw b hb eb
    · rw [upd_ne (m' a ha).2]
      exact S.ows a (m' a ha).1
theorem S8.stillD {i : Nat} (S : S8 xs P0 H0 ow σ P H ss) (h : ss[i]? = some (.ow (oD w Es))) (hx : Away xs ss i := by exact .inl rfl) : ∃ ow' P', S8 xs P0 H0 ow' σ P' H (ss.set i (.pr (pD w Es))) ∧ (∀ a ∈ ow', a ∈ ow) ∧ Same P P' :=
  S.stillG h (fun P H v fp ⟨d, o, xs, h1, h2, h3, h4⟩ => ⟨d, pin d o, h1, h2, h3, fun P' e q => ⟨d, o, xs, h1, q, h4.up e⟩⟩) hx
end
/-! ### stored while it is made -/
section
variable {ι : Type} (F : ι → Cx)
def XC (e : Expr) : TE := fun σ H Q => ∃ t, (∀ i, PCo (F i) e t) ∧ t σ H Q
def JM (e : Expr) (ss : List Sl) (O : Ow) (ss' : List Sl) : Prop :=
  ∀ (xs : List Addr) (P0 H0 : Hp) (ow : List Addr) (σ : L2.St) (P H : Hp), S8 xs P0 H0 ow σ P H ss → ∀ Q : VK,
    (∀ v fp P2 H2, S8 xs P0 H0 ow σ P2 H2 ss' → Same P P2 → (∀ a ∈ fp, H a = none ∧ P2 a = none ∧ H2 a ≠ none) → O.ok P2 H2 v fp → Q v H2) → XC F e σ H Q
end
section
variable {ι : Type} {F : ι → Cx} {X : Cx} {e : Expr} {ss ss1 : List Sl} {O : Ow} {w : World} {Es : List (NestedKey × Pr)}
theorem xc_ps {i : Nat} {y : Str} {py spos : Pos} (hN : X.N.Nodup) (hy : X.N[i]? = some y) (hyl : X.env.scope.names.lookup y = some .local) (hsw : swapsWith e (some (.Name y py)) spos.line X.env = pure true) : PS X (.Assign [.Name y py] e spos) (tAsg (XC (C1 X) e) (gName i)) :=
  ⟨fun pins s σ H D I ⟨_, h, q⟩ => ((h ()).ps hN hy hyl hsw).run pins s σ H D I q⟩
theorem JM.jn (h : JM F e ss O ss1) : JN F e ss O ss1 := fun xs P0 H0 ow σ P H S Q k => by
  obtain ⟨t, h1, h2⟩ := h _ _ _ _ _ _ _ S Q k
  exact ⟨t, fun i => (h1 i).pe, h2⟩
theorem JM.is {O' : Ow} (h : JM F e ss O ss1) (q : O = O') : JM F e ss O' ss1 := q ▸ h
variable {xs : List Addr} {P0 H0 : Hp} {ow : List Addr} {σ : L2.St} {P H : Hp} {D : Ends} {rest : List Stmt} {pos : Pos}
/-- name = comprehension, on one line -/
theorem w_asgM (i : Nat) {x : Str} {p : Pos} (S : S8 xs P0 H0 ow σ P H ss) (h : JM (C1 X) e ss O ss1) (k : ∀ ow σ P H, S8 xs P0 H0 ow σ P H (ss1.set i (.ow O)) → XS X rest D σ H) (hN : X.N.Nodup) (hl : ∃ s, ss1[i]? = some s := by exact ⟨_, rfl⟩)
    (hi : X.N[i]? = some x := by rfl) (hx : X.env.scope.names.lookup x = some .local := by rfl) (hs : swapsWith e (some (.Name x p)) pos.line X.env = pure true := by rfl) :
    XS X (.Assign [.Name x p] e pos :: rest) D σ H :=
  w_cons ⟨_, xc_ps hN hi hx hs, h _ _ _ _ _ _ _ S.here _ fun v fp P2 H2 S2 _ nf r => by
    have S3 := S.back S2 fun a ha => .inl ha
    obtain ⟨ow', S4⟩ := S3.own hl.choose_spec (O := O) (v := v) (fp := fp) r (fun a ha => by
      obtain ⟨n, np, h2⟩ := nf a ha
      exact ⟨np, h2, S.gone n, fun z => (S.ows a z).2.1 n⟩)
    exact k ow' _ P2 H2 S4⟩
/-- .. never changed any more -/
theorem w_asgMP (i : Nat) {x : Str} {p : Pos} {R : Pr} (S : S8 xs P0 H0 ow σ P H ss) (h : JM (C1 X) e ss O ss1) (hO : ∀ (P H : Hp) (v : V) (fp : List Addr), O.ok P H v fp → ∃ l o, v = .ref l ∧ fp = [l] ∧ H l = some o ∧ ∀ P', Same P P' → P' l = some o → R.p P' v) (k : ∀ ow σ P H, S8 xs P0 H0 ow σ P H (ss1.set i (.pr R)) → XS X rest D σ H) (hN : X.N.Nodup) (hl : ∃ s, ss1[i]? = some s := by exact ⟨_, rfl⟩)
    (hi : X.N[i]? = some x := by rfl) (hx : X.env.scope.names.lookup x = some .local := by rfl) (hs : swapsWith e (some (.Name x p)) pos.line X.env = pure true := by rfl) :
    XS X (.Assign [.Name x p] e pos :: rest) D σ H :=
  w_cons ⟨_, xc_ps hN hi hx hs, h _ _ _ _ _ _ _ S.here _ fun v fp P2 H2 S2 _ nf r => by
    obtain ⟨l, o, rfl, rfl, hlo, rs⟩ := hO _ _ _ _ r
    obtain ⟨n, np, _⟩ := nf l (by simp)
    have no : l ∉ ow := fun z => (S.ows l z).2.1 n
    have S3 := S.back (S2.freeze n no no np hlo) fun a ha => .inl ha
    obtain ⟨ow', S4, _⟩ := S3.set' (R := R) (v := .ref l) (let ⟨_, e⟩ := hl; (List.getElem?_eq_some_iff.mp e).1) (rs _ (same_upd np) upd_same)
    exact k ow' _ _ H2 S4⟩
theorem oD_pD (P H : Hp) (v : V) (fp : List Addr) : (oD w Es).ok P H v fp → ∃ l o, v = .ref l ∧ fp = [l] ∧ H l = some o ∧ ∀ P', Same P P' → P' l = some o → (pD w Es).p P' v :=
  fun ⟨d, o, xs, h1, h2, h3, h4⟩ => ⟨d, pin d o, h1, h2, h3, fun P' e q => ⟨d, o, xs, h1, q, h4.up e⟩⟩
theorem oL_pL {Rs : List Pr} (P H : Hp) (v : V) (fp : List Addr) : (oL Rs).ok P H v fp → ∃ l o, v = .ref l ∧ fp = [l] ∧ H l = some o ∧ ∀ P', Same P P' → P' l = some o → (pL Rs).p P' v :=
  fun ⟨l, xs, h1, h2, h3, h4⟩ => ⟨l, .lst xs, h1, h2, h3, fun P' e q => ⟨l, xs, h1, q, h4.up e⟩⟩
end
/-! ### comprehensions -/
structure Acc (β : Type) where
  ok : β → Hp → Addr → HO → Prop
  up : ∀ {b : β} {P P' : Hp} {D : Addr} {o : HO}, Same P P' → ok b P D o → ok b P' D o
/-- the heap grows, the object at D changes -/
structure GD (D : Addr) (P H P2 H2 : Hp) : Prop where
  p : Same P P2
  l : Ld P2 H2
  h : ∀ b o, b ≠ D → H b = some o → H2 b = some o
  n : ∀ b, H b ≠ none → P b = none → P2 b = none
theorem GD.keep {D : Addr} {P H P2 H2 : Hp} (g : GD D P H P2 H2) (hd : H2 D ≠ none) {b : Addr} (n : H b ≠ none) : H2 b ≠ none := by
  by_cases e : b = D
  · rw [e]; exact hd
  · cases q : H b with
    | none => exact absurd q n
    | some o => rw [g.h b o e q]; exact Option.some_ne_none _
theorem GD.trans {D : Addr} {P H P2 H2 P3 H3 : Hp} (a : GD D P H P2 H2) (hd : H2 D ≠ none) (b : GD D P2 H2 P3 H3) : GD D P H P3 H3 :=
  ⟨a.p.trans b.p, b.l, fun c o hc e => b.h c o hc (a.h c o hc e), fun c n e => b.n c (a.keep hd n) (a.n c n e)⟩
theorem Gr.gd {P H P2 H2 : Hp} (g : Gr P H P2 H2) (D : Addr) : GD D P H P2 H2 := ⟨g.p, g.l, fun b o _ e => g.h b o e, g.n⟩
theorem GD.upd {D : Addr} {P H P2 H2 : Hp} (g : GD D P H P2 H2) (np : P2 D = none) (o : HO) : GD D P H P2 (upd H2 D o) :=
  ⟨g.p, fun b u e => by
    have : b ≠ D := fun z => by rw [z, np] at e; cases e
    rw [upd_ne this]
    exact g.l b u e, fun b o' hb e => by rw [upd_ne hb]; exact g.h b o' hb e, g.n⟩
section
variable {ι : Type} (F : ι → Cx)
def XB (vs : List Nat) (bd : Value → Env → Sem Unit) (D : Addr) : TB := fun σ H Q => ∃ tb, (∀ i, PB (F i) vs (bd (.ref D) (F i).env) tb) ∧ tb σ H Q
theorem xb {F : ι → Cx} {vs : List Nat} {bd : Value → Env → Sem Unit} {D : Addr} (i : ι) : PB (F i) vs (bd (.ref D) (F i).env) (XB F vs bd D) := ⟨fun pins s σ H Q I ⟨_, h, q⟩ => (h i).run pins s σ H Q I q⟩
def JB {β : Type} (vs : List Nat) (bd : Value → Env → Sem Unit) (A : Acc β) (ss : List Sl) (st : β → β) (lim : β → Prop) : Prop :=
  ∀ (D : Addr) (σ : L2.St) (P H : Hp) (o : HO) (b : β), S8 [] P H [] σ P H ss → P D = none → H D = some o → A.ok b P D o → lim b → ∀ Q : Hp → Prop, (∀ P2 H2 o2, GD D P H P2 H2 → H2 D = some o2 → A.ok (st b) P2 D o2 → Q H2) → XB F vs bd D σ H Q
end
/-- the accumulator behind the items -/
def accOf {α β : Type} (t : α → Bool) (st : α → β → β) (b : β) (ys : List α) : β := (ys.filter t).foldl (fun b y => st y b) b
theorem accOf_snoc {α β : Type} (t : α → Bool) (st : α → β → β) (b : β) (ys : List α) (y : α) : accOf t st b (ys ++ [y]) = if t y = true then st y (accOf t st b ys) else accOf t st b ys := by
  unfold accOf
  rw [List.filter_append, List.foldl_append, List.filter_cons]
  split <;> simp
section
variable {ι : Type} {F : ι → Cx} {β α : Type} {A : Acc β} {vs : List Nat} {bd : Value → Env → Sem Unit} {tg : Expr} {ifs : List Expr} {ys : List α} {r : α → Pr} {js : List Nat} {f : α → List Sl → List Sl} {ssE : List Sl} {t : α → Bool} {st : α → β → β} {lim : α → β → Prop}
/-- a clause's loop over the items ys -/
theorem loopJ {J : It} {P2 H2 : Hp} {σ : L2.St} {D : Addr} {o0 : HO} {b0 : β} {Q : Hp → Prop} (ok : ItOk J (ys.map r) P2) (S : SlAll P2 H2 [] (wipe σ vs) (wipeS ssE vs)) (ld : Ld P2 H2) (pd : P2 D = none) (hd : H2 D = some o0) (h0 : A.ok b0 P2 D o0)
    (hg : ∀ y, JG F tg js (r y) (f y)) (hjs : ∀ j ∈ js, j ∈ vs) (hjl : ∀ j ∈ js, j < ssE.length) (ht : ∀ y ∈ ys, JTs F ifs (f y (wipeS ssE vs)) (t y) (f y (wipeS ssE vs)))
    (hb : ∀ y ∈ ys, t y = true → JB F vs bd A (f y (wipeS ssE vs)) (st y) (lim y)) (hl : ∀ pre y post, ys = pre ++ y :: post → t y = true → lim y (accOf t st b0 pre))
    (k : ∀ P3 H3 o3, GD D P2 H2 P3 H3 → H3 D = some o3 → A.ok (accOf t st b0 ys) P3 D o3 → Q H3) : tLoop J (XG F tg) (XTs F ifs) (XB F vs bd D) vs σ H2 Q := by
  let Iv : Nat → Hp → Prop := fun i H' => ∃ P' o', GD D P2 H2 P' H' ∧ H' D = some o' ∧ A.ok (accOf t st b0 (ys.take i)) P' D o'
  refine ⟨fun i m H' => m = ys.length - i ∧ i ≤ ys.length ∧ Iv i H', ⟨ys.length, by simp, Nat.zero_le _, P2, o0, (Gr.refl ld).gd D, hd, h0⟩, ?_⟩
  rintro i m H' ⟨rfl, hle, P', o', g, hd', a'⟩
  have hne : H' D ≠ none := by rw [hd']; exact Option.some_ne_none _
  have pd' : P' D = none := g.n D (by rw [hd]; exact Option.some_ne_none _) pd
  by_cases hlt : i < ys.length
  · have ey : ys[i]? = some ys[i] := List.getElem?_eq_getElem hlt
    have em : (ys.map r)[i]? = some (r ys[i]) := by rw [List.getElem?_map, ey]; rfl
    have ek : ys.take (i + 1) = ys.take i ++ [ys[i]] := by rw [List.take_add_one, ey]; rfl
    have hm : ys[i] ∈ ys := List.getElem_mem hlt
    have es : ys = ys.take i ++ ys[i] :: ys.drop (i + 1) := by
      rw [← List.drop_eq_getElem_cons hlt, List.take_append_drop]
    refine .inr ⟨ok.go i P' H' (by simpa using hlt) g.l g.p, Iv (i + 1), fun H4 h4 => ⟨ys.length - (i + 1), by omega, rfl, by omega, h4⟩, fun x H4 y => ?_⟩
    obtain ⟨P4, g4, rx⟩ := ok.yl i _ P' H' x H4 em g.l g.p y
    have hd4 : H4 D = some o' := g4.h _ _ hd'
    have pd4 : P4 D = none := g4.n D hne pd'
    have gg := g.trans hne (g4.gd D)
    have Sb : S8 [] P4 H4 [] (wipe σ vs) P4 H4 (wipeS ssE vs) :=
      ⟨Same.refl _, g4.l, fun _ _ _ e => e, fun _ _ e => e, fun a ha => absurd ha (by simp), fun a ha => absurd ha (by simp), S.grow gg.p fun a ha => absurd ha (by simp)⟩
    refine hg ys[i] _ _ _ _ _ _ _ _ Sb (fun j hj => by rw [wipeS_length]; exact hjl j hj) x rx _ fun ow5 σ5 d5 S5 m5 _ => ⟨?_, ?_⟩
    · rw [wipe_dif d5 hjs, wipe_wipe]
    · have e5 : ow5 = [] := by
        cases ow5 with
        | nil => rfl
        | cons a _ => exact absurd (m5 a (by simp)) (by simp)
      subst e5
      refine ht ys[i] hm _ _ _ _ _ _ _ S5 _ fun P6 H6 S6 _ => ?_
      have hd6 : H6 D = some o' := S6.gr.h _ _ hd4
      have pd6 : P6 D = none := S6.gr.n D (by rw [hd4]; exact Option.some_ne_none _) pd4
      have g6 := gg.trans (by rw [hd4]; exact Option.some_ne_none _) (S6.gr.gd D)
      have a6 := A.up (g4.p.trans S6.gr.p) a'
      cases hb' : t ys[i] with
      | false =>
        refine iteF ⟨P6, o', g6, hd6, ?_⟩
        rw [ek, accOf_snoc, hb']
        simpa using a6
      | true =>
        refine iteT (hb ys[i] hm hb' D σ5 P6 H6 o' _ S6.here pd6 hd6 a6 (hl _ _ _ es hb') _ fun P7 H7 o7 g7 hd7 a7 => ⟨P7, o7, g6.trans (by rw [hd6]; exact Option.some_ne_none _) g7, hd7, ?_⟩)
        rw [ek, accOf_snoc, hb']
        simpa using a7
  · have e : i = ys.length := by omega
    subst e
    rw [List.take_length] at a'
    have st := ok.st P' H' g.l g.p
    rw [List.length_map] at st
    exact .inl ⟨st, k P' H' o' g hd' a'⟩
/-- a further clause -/
theorem jb_next {c i1 : Expr} {kk : Nat} {p : Pos} {ss : List Sl} {b0 : β → Prop} (hx : ∀ i, (F i).xe = fun _ _ => False) (hc : ∀ i, (F i).calm = true) (C : CompC c kk) (hturn : ∀ (it acc : Value) (env : Env), compTurn c kk it acc env = turnOf c kk p tg ifs (bd acc env) it acc env)
    (hs : ∀ i x, foldedSetIterable i1 (F i).env x = pure x) (hi : JI F tg i1 ss (ys.map r) ss) (hno : noOw ss = true) (hg : ∀ y, JG F tg js (r y) (f y)) (hjs : ∀ j ∈ js, j ∈ vs) (hjl : ∀ j ∈ js, j < ss.length) (ht : ∀ y ∈ ys, JTs F ifs (f y (wipeS ss vs)) (t y) (f y (wipeS ss vs)))
    (hb : ∀ y ∈ ys, t y = true → JB F vs bd A (f y (wipeS ss vs)) (st y) (lim y)) (hl : ∀ b, b0 b → ∀ pre y post, ys = pre ++ y :: post → t y = true → lim y (accOf t st b pre)) :
    JB F vs (fun acc env => nextOf c kk i1 acc env) A ss (fun b => accOf t st b ys) b0 := fun D σ P H o b S pd hd h0 hlim Q k => by
  refine ⟨_, fun i => pb_next (hx i) (hc i) C (fun it => hturn it (.ref D) (F i).env) (hs i) (xi i) (xg i) (xts i) (xb i), ?_⟩
  refine hi _ _ _ _ _ _ _ S _ fun J P2 H2 S2 e2 ok => ?_
  have hd2 : H2 D = some o := S2.gr.h _ _ hd
  have pd2 : P2 D = none := S2.gr.n D (by rw [hd]; exact Option.some_ne_none _) pd
  refine loopJ ok (slAll_wipe (S2.pure (Wk.refl _) hno).sl _) S2.ld pd2 hd2 (A.up e2 h0) hg hjs hjl ht hb (hl b hlim) fun P3 H3 o3 g hd3 a3 => k P3 H3 o3 ((S2.gr.gd D).trans (by rw [hd2]; exact Option.some_ne_none _) g) hd3 a3
/-- the whole comprehension -/
theorem jm_comp {c iter : Expr} {gs : List Comprehension} {p pos' : Pos} {scope : Scope} {ss ss1 : List Sl} {O : Ow} {mk : Sem Value} {o0 : Obj} {u0 : Addr → HO} (own : List (Str × Nat)) (b0 : β) (A : Acc β) (ssE : List Sl)
    (heval : ∀ i, eval c (F i).env = comprehension c scope (F i).env pos' mk false (eval iter (F i).env) none) (huse : ∀ i (u : Value → Sem Unit), evalThenUse c (F i).env u = (do let _ ← comprehension c scope (F i).env pos' mk false (eval iter (F i).env) (some u))) (hcl : clausesOf c = ⟨tg, iter, ifs, 0⟩ :: gs) (C : CompC c 0) (hturn : ∀ (it acc : Value) (env : Env), compTurn c 0 it acc env = turnOf c 0 p tg ifs (bd acc env) it acc env)
    (hmk : ∀ i (s : Shared) (Q : Value → Shared → Prop), Q (.ref s.heap.objs.size) { s with heap := s.heap.push o0 } → wpAny (model (F i).prog (F i).w) (F i).A mk Q (F i).xe s) (hfr : o0.isFreed = false)
    (hu0 : ∀ i (H : Hp) (h : Heap), sysModules < h.objs.size → ObjOk (F i).prog (F i).w H (h.push o0) h.objs.size (u0 h.objs.size)) (ha0 : ∀ P D, (D == sysModules) = false → A.ok b0 P D (u0 D)) (hO : ∀ (P H : Hp) (D : Addr) (o : HO) (b : β), A.ok b P D o → H D = some o → b = accOf t st b0 ys → O.ok P H (.ref D) [D])
    (hi : JI F tg iter ss (ys.map r) ss1) (ok : ∀ i, BlkOk (F i).N (F i).env.scope scope own) (hw : Wk ss1 ssE) (hno : noOw ssE = true) (hg : ∀ y, JG (FB F scope) tg js (r y) (f y)) (hjs : ∀ j ∈ js, j ∈ own.map (·.2)) (hjl : ∀ j ∈ js, j < ssE.length)
    (ht : ∀ y, y ∈ ys → JTs (FB F scope) ifs (f y (wipeS ssE (own.map (·.2)))) (t y) (f y (wipeS ssE (own.map (·.2)))))
    (hb : ∀ y, y ∈ ys → t y = true → JB (FB F scope) (own.map (·.2)) bd A (f y (wipeS ssE (own.map (·.2)))) (st y) (lim y)) (hl : ∀ pre y post, ys = pre ++ y :: post → t y = true → lim y (accOf t st b0 pre)) (hN : ∀ i, (F i).N.Nodup) (hc : ∀ i, (F i).calm = true := by intro _; rfl)
    (hs : ∀ i x, foldedSetIterable iter (F i).env x = pure x := by intro _ _; rfl) : JM F c ss O ss1 := fun xs P0 H0 ow σ P H S Q k => by
  refine ⟨_, fun i => pco_comp (heval i) (huse i) (hc i) (hN i) hcl C hturn (xi i) (ok i) (hmk i) hfr (hu0 i) (fun s H C cl fp => xg (F := FB F scope) (i, s, H, C, cl, fp)) (fun s H C cl fp => xts (F := FB F scope) (i, s, H, C, cl, fp)) (fun D s H C cl fp => xb (F := FB F scope) (D := D) (i, s, H, C, cl, fp)) (hs i), ?_⟩
  refine hi _ _ _ _ _ _ _ S.here _ fun It P2 H2 S2 e2 oki D hD hsm => ?_
  have SE := S2.pure hw hno
  have g0 := Gr.junk S2.ld hD (u0 D)
  have np : P2 D = none := S2.ld.none hD
  have Sw : SlAll P2 (upd H2 D (u0 D)) [] (wipe (wipe σ (own.map (·.2))) (own.map (·.2))) (wipeS ssE (own.map (·.2))) := by
    rw [wipe_wipe]
    exact slAll_wipe (SE.sl.grow (Same.refl _) fun a ha => absurd ha (by simp)) _
  refine loopJ oki Sw g0.l np upd_same (ha0 _ _ hsm) hg hjs hjl ht hb hl fun P3 H3 o3 g hd3 a3 => ?_
  have G : Gr P2 H2 P3 H3 := ⟨g.p, g.l, fun b o e => by
    have : b ≠ D := fun z => by rw [z, hD] at e; cases e
    exact g.h b o this (by rw [upd_ne this]; exact e), fun b hb e => g.n b (by
      have : b ≠ D := fun z => hb (by rw [z]; exact hD)
      rw [upd_ne this]
      exact hb) e⟩
  have np3 : P3 D = none := g.n D (by rw [upd_same]; exact Option.some_ne_none _) np
  have S9 : S8 xs P0 H0 ow σ P3 H3 ss1 := S.back (S2.grow G) fun a ha => .inl ha
  refine k (.ref D) [D] P3 H3 S9 (e2.trans g.p) (fun a ha => ?_) (hO _ _ _ _ _ a3 hd3 rfl)
  have : a = D := by simpa using ha
  subst this
  exact ⟨S2.gone hD, np3, by rw [hd3]; exact Option.some_ne_none _⟩
end
end Ly
/-! Dicts with nested keys: reading, writing, walking. -/
namespace Ly
open PySem PySem.Spec PyProof.Rows L2
/-! ### readings -/
/-- the dict at d told by its pinned object, its keys in the heap -/
structure DH (w : World) (H : Hp) (d : Addr) (xs : List DE) : Prop where
  at_ : DAt w H d xs
  ks : DKs H xs
theorem DD.dh {w : World} {P H : Hp} {Es : List (NestedKey × Pr)} {d : Addr} {o : Obj} {xs : List DE} (h : DD w P Es d o xs) (l : Ld P H) (e : H d = some (pin d o)) : DH w H d xs := ⟨⟨o, e, h.ob, h.sm, h.sz⟩, h.ks.hp l⟩
def rGetN (w : World) : R2 := fun x y H Q => ∃ d a k xs v, x = .ref d ∧ y = .ref a ∧ DH w H d xs ∧ NK H k (.ref a) ∧ k.depth ≤ 8 ∧ atD xs k = some v ∧ Q v H
def rInN (w : World) (neg : Bool) : R2 := fun x y H Q => ∃ d a k xs, y = .ref d ∧ x = .ref a ∧ DH w H d xs ∧ NK H k (.ref a) ∧ k.depth ≤ 8 ∧ Q (.bl (if neg then !(atD xs k).isSome else (atD xs k).isSome)) H
section
variable {X : Cx} {o i e : Expr} {pos apos cpos : Pos} {td ti : TE} {ta : TA}
theorem pe_getN (hu : X.A.units + 16 < cLine) (ho : PE X o td) (hi : PE X i ti) (hs : NoSl i) : PE X (.Subscript o i pos) (tOp (rGetN X.w) td ti) := by
  refine ⟨fun pins s σ H Q I h => ?_⟩
  refine subD_of PySem.F.slot_dict_getitem.lookup hs (thn (ho.run pins s σ H _ I h) fun u s1 ⟨x, H1, I1, rx, q1⟩ => thn (hi.run pins s1 σ H1 _ I1 q1) fun iv s2 ⟨y, H2, I2, ry, d, a, k, xs, v, ex, ey, D, nk, dp, g, q2⟩ => ?_)
  subst ex ey
  obtain rfl : u = Value.ref d := rx
  obtain rfl : iv = Value.ref a := ry
  refine ⟨?_, nd_get hu I2 D.at_ D.ks nk dp g fun w' s3 I3 rw' => ⟨v, H2, I3, rw', q2⟩⟩
  obtain ⟨o, ho, D, hs, hz⟩ := D.at_
  exact ⟨o, pin_at I2 ho, D.1.1⟩
theorem op_inN (hu : X.A.units + 16 < cLine) : OpR X (compareOp .In) (rInN X.w false) := by
  intro pins s σ H x y v u Q I rx ry ⟨d, a, k, xs, ey, ex, D, nk, dp, q⟩
  subst ex ey
  obtain rfl : u = Value.ref d := ry
  obtain rfl : v = Value.ref a := rx
  exact nd_in hu I D.at_ D.ks nk dp fun s3 I3 => ⟨.bl _, H, I3, rfl, q⟩
theorem op_notInN (hu : X.A.units + 16 < cLine) : OpR X (compareOp .NotIn) (rInN X.w true) := by
  intro pins s σ H x y v u Q I rx ry ⟨d, a, k, xs, ey, ex, D, nk, dp, q⟩
  subst ex ey
  obtain rfl : u = Value.ref d := ry
  obtain rfl : v = Value.ref a := rx
  exact nd_notin hu I D.at_ D.ks nk dp fun s3 I3 => ⟨.bl _, H, I3, rfl, q⟩
def rSetN (w : World) : TSet := fun o i v H Q => ∃ d a k xs, o = .ref d ∧ i = .ref a ∧ DH w H d xs ∧ NK H k (.ref a) ∧ k.depth ≤ 8 ∧ xs.length < sizeLine ∧ ∀ ob, DObj w ob (putD xs k a v) → Q (upd H d (pin d ob))
theorem set_N (hu : X.A.units + 16 < cLine) : PSet X (rSetN X.w) := by
  intro pins s σ H o i v ov iv u Q I ro ri rv ⟨d, a, k, xs, eo, ei, D, nk, dp, hl, q⟩
  subst eo ei
  obtain rfl : ov = Value.ref d := ro
  obtain rfl : iv = Value.ref a := ri
  exact nd_set hu I D.at_ D.ks nk dp rv hl fun ob s' hob I' => ⟨_, I', q ob hob⟩
def rLenN (w : World) : List V → Hp → VK → Prop := fun vs H Q => ∃ d xs, vs = [.ref d] ∧ DAt w H d xs ∧ Q (.int xs.length) H
theorem cr_lenN : CallR X (.builtin "len") (rLenN X.w) := by
  intro pins s σ H vs us Q I r ⟨d, xs, ev, D, q⟩
  subst ev
  obtain ⟨u, rfl, ru⟩ := vals1 r
  cases ru
  exact nd_len I D fun t s' I' => ⟨.int _, H, I', ⟨t, rfl⟩, q⟩
def tSetdef (w : World) (td tk tv : TE) : TE := fun σ H Q => td σ H fun x H1 => ∃ d xs0, x = .ref d ∧ DH w H1 d xs0 ∧ tk σ H1 fun y H2 => tv σ H2 fun v H3 => ∃ a k xs, y = .ref a ∧ DH w H3 d xs ∧ NK H3 k (.ref a) ∧ k.depth ≤ 8 ∧ xs.length < sizeLine ∧
  (∀ z, atD xs k = some z → Q z H3) ∧ (atD xs k = none → ∀ ob, DObj w ob (putD xs k a v) → Q v (upd H3 d (pin d ob)))
theorem pe_setdef {f : Expr} {tv : TE} (hu : X.A.units + 16 < cLine) (ho : PE X o td) (he : PE X e ti) (hf : PE X f tv) (m : M2 X o "setdefault" apos e f cpos) : PE X (.Call (.Attribute o "setdefault" apos) [e, f] [] cpos) (tSetdef X.w td ti tv) := by
  refine ⟨fun pins s σ H Q I h => ?_⟩
  refine wpAny_Call_method m.base m.few m.line PySem.F.plainAttrs_dict PySem.F.slot_dict_setdefault PySem.F.type_dict_setdefault (thn (ho.run pins s σ H _ I h) fun u s1 ⟨x, H1, I1, rx, d, xs0, ex, D0, q1⟩ => ?_)
  subst ex
  obtain rfl : u = Value.ref d := rx
  obtain ⟨ob, hob, Do, _, _⟩ := D0.at_
  refine ⟨⟨ob, pin_at I1 hob, Do.1.1⟩, fun b q => ?_, ?_⟩
  · cases q
    exact ⟨ob, pin_at I1 hob, Do.1.2.1⟩
  rw [m.trees]
  refine Calls.callWith_builtin rfl (Calls.evalArgs_plain (Calls.spliced_cons (thn (he.run pins s1 σ H1 _ I1 q1) fun iv s2 ⟨y, H2, I2, ry, q2⟩ =>
    Calls.spliced_cons (thn (hf.run pins s2 σ H2 _ I2 q2) fun fv s3 ⟨v, H3, I3, rv, a, k, xs, ey, D, nk, dp, hl, h1, h2⟩ => Calls.spliced_nil ?_))))
  subst ey
  obtain rfl : iv = Value.ref a := ry
  exact nd_setdefault hu I3 D.at_ D.ks nk dp rv hl (fun z w' s' hz rz I' => ⟨z, H3, I', rz, h1 z hz⟩) fun hn ob s' hob I' => ⟨v, _, I', rv, h2 hn ob hob⟩
end
/-! ### in the layer -/
/-- a slot's own object changes in its place -/
theorem SlAll.same {P H : Hp} {ow : List Addr} {σ : L2.St} {ss : List Sl} (h : SlAll P H ow σ ss) : ∀ {i : Nat} {s : Sl}, ss[i]? = some s →
    ∃ (v : Option V) (fp : List Addr), σ[i]? = some v ∧ Sl1 P H fp v s ∧ (∀ a ∈ fp, a ∈ ow) ∧ ∀ (H' : Hp) (s' : Sl), (∀ a ∈ ow, a ∉ fp → H' a = H a) → Sl1 P H' fp v s' → SlAll P H' ow σ (ss.set i s') := by
  induction h with
  | nil =>
    intro i s h
    simp at h
  | @cons ow f0 v s0 σ ss a dj hr ih =>
    intro i s h
    cases i with
    | zero =>
      have h : s0 = s := by simpa using h
      subst h
      exact ⟨v, f0, rfl, a, fun b hb => List.mem_append_left _ hb, fun H' s' hh a' => .cons a' dj (hr.grow (Same.refl _) fun b hb => hh b (List.mem_append_right _ hb) fun z => dj b z hb)⟩
    | succ i =>
      have h : ss[i]? = some s := by simpa using h
      obtain ⟨u, fp, e, q, sub, put⟩ := ih h
      refine ⟨u, fp, by simpa using e, q, fun b hb => List.mem_append_right _ (sub b hb), fun H' s' hh a' => ?_⟩
      exact .cons (a.up (Same.refl _) fun b hb => hh b (List.mem_append_left _ hb) fun z => dj b hb (sub b z)) dj (put H' s' (fun b hb hn => hh b (List.mem_append_right _ hb) hn) a')
theorem S8.ownedS {xs : List Addr} {P0 H0 : Hp} {ow : List Addr} {σ : L2.St} {P H : Hp} {ss : List Sl} (S : S8 xs P0 H0 ow σ P H ss) {i : Nat} {O : Ow} (h : ss[i]? = some (.ow O)) : ∃ v fp, σ[i]? = some (some v) ∧ O.ok P H v fp ∧ (∀ a ∈ fp, a ∈ ow) ∧
    ∀ (H' : Hp) (O' : Ow), (∀ b, b ∉ fp → H' b = H b) → (∀ b ∈ fp, H' b ≠ none) → O'.ok P H' v fp → S8 xs P0 H0 ow σ P H' (ss.set i (.ow O')) := by
  obtain ⟨v, fp, e, q, sub, put⟩ := SlAll.same S.sl h
  cases q with
  | @ow _ v _ r =>
    refine ⟨v, fp, e, r, sub, fun H' O' k ks r' => ?_⟩
    have g := put H' (.ow O') (fun a _ n => k a n) (.ow r')
    have hne : ∀ b, H b ≠ none → H' b ≠ none := fun b hb => by
      by_cases q : b ∈ fp
      · exact ks b q
      · rw [k b q]; exact hb
    refine ⟨S.p0, fun b u eb => ?_, fun b o hb eb => ?_, S.nw, fun a ha => ⟨(S.ows a ha).1, hne a (S.ows a ha).2.1, (S.ows a ha).2.2⟩, fun a ha => hne a (S.xh a ha), g⟩
    · rw [k b fun z => by rw [(S.ows b (sub b z)).1] at eb; cases eb]
      exact S.ld b u eb
    · rw [k b fun z => ?_]
      · exact S.h0 b o hb eb
      · rcases (S.ows b (sub b z)).2.2 with q | q
        · rw [q] at eb; cases eb
        · exact hb q
section
variable {ι : Type} {F : ι → Cx} {K : PySem.W.Frag} {w : World} {ss ss1 ss2 : List Sl} {R Ra : Pr} {a b c : Expr} {pos apos cpos p : Pos} {k : NestedKey} {Es : List (NestedKey × Pr)}
theorem je_getD (ha : JE F a ss (pD w Es) ss1) {ks : List NestedKey} (hb : JE F b ss1 (pNK (.tup ks)) ss2) (hk : atE Es (.tup ks) = some R) (dp : (NestedKey.tup ks).depth ≤ 8) (hu : ∀ i, (F i).A.units + 16 < cLine) (hs : NoSl b) (hw : ∀ i, (F i).w = w := by intro _; rfl) : JE F (.Subscript a b pos) ss R ss2 := fun xs P0 H0 ow σ P H S Q kQ =>
  ⟨tOp (rGetN w) (XE F a) (XE F b), fun i => by have q := pe_getN (hu i) (xe (F := F) (e := a) i) (xe (F := F) (e := b) i) (pos := pos) hs; rw [hw i] at q; exact q, ha _ _ _ _ _ _ _ S _ fun v P2 H2 S2 e2 r2 => hb _ _ _ _ _ _ _ S2 _ fun u P3 H3 S3 e3 r3 => by
    obtain ⟨d, o, ys, rfl, hd, D⟩ := (pD w Es).up e3 r2
    obtain ⟨q, rfl⟩ := nk_ref r3
    obtain ⟨v, hv, rv⟩ := D.ep.some hk
    exact ⟨d, q, _, ys, v, rfl, rfl, D.dh S3.ld (S3.ld.at hd (fun z => z)), nk_hp S3.ld r3, dp, hv, kQ v P3 H3 S3 (e2.trans e3) rv⟩⟩
theorem rv_inD {neg : Bool} {ks : List NestedKey} (dp : (NestedKey.tup ks).depth ≤ 8) : RVr (rInN w neg) (pNK (.tup ks)) (pD w Es) (pB (if neg then !(atE Es (.tup ks)).isSome else (atE Es (.tup ks)).isSome)) := rv0 fun P H u v Q l ra rb kQ => by
  obtain ⟨d, o, ys, rfl, hd, D⟩ := rb
  obtain ⟨q, rfl⟩ := nk_ref ra
  refine ⟨d, q, _, ys, rfl, rfl, D.dh l (l.at hd (fun z => z)), nk_hp l ra, dp, kQ _ ?_⟩
  rw [D.ep.atS]
  rfl
theorem S8.ownD {xs : List Addr} {P0 H0 : Hp} {ow : List Addr} {σ : L2.St} {P H : Hp} {ss : List Sl} (S : S8 xs P0 H0 ow σ P H ss) {i : Nat} (h : ss[i]? = some (.ow (oD w Es))) : ∃ d o ys, σ[i]? = some (some (.ref d)) ∧ H d = some (pin d o) ∧ DD w P Es d o ys := by
  obtain ⟨v, fp, ev, ⟨d, o, ys, rfl, rfl, hd, D⟩, _, _⟩ := S.owned h
  exact ⟨d, o, ys, ev, hd, D⟩
theorem je_getO (i : Nat) (ho : ∀ j, PE (F j) a (tVar i)) {ks : List NestedKey} (hb : JE F b ss (pNK (.tup ks)) ss1) (hs0 : ss[i]? = some (.ow (oD w Es)) := by rfl) (hs1 : ss1[i]? = some (.ow (oD w Es)) := by rfl) (hk : atE Es (.tup ks) = some R) (dp : (NestedKey.tup ks).depth ≤ 8) (hu : ∀ i, (F i).A.units + 16 < cLine) (hs : NoSl b) (hw : ∀ i, (F i).w = w := by intro _; rfl) :
    JE F (.Subscript a b pos) ss R ss1 := fun xs P0 H0 ow σ P H S Q kQ => by
  obtain ⟨d, o, ys, ev, hd, D⟩ := S.ownD hs0
  refine ⟨tOp (rGetN w) (tVar i) (XE F b), fun j => by have q := pe_getN (hu j) (ho j) (xe (F := F) (e := b) j) (pos := pos) hs; rw [hw j] at q; exact q, .ref d, ev, hb _ _ _ _ _ _ _ S _ fun u P3 H3 S3 e3 r3 => ?_⟩
  obtain ⟨d', o', ys', ev', hd', D'⟩ := S3.ownD hs1
  rw [ev] at ev'
  obtain rfl : d = d' := by injection ev' with z; injection z with z; injection z
  obtain ⟨q, rfl⟩ := nk_ref r3
  obtain ⟨v, hv, rv⟩ := D'.ep.some hk
  exact ⟨d, q, _, ys', v, rfl, rfl, D'.dh S3.ld hd', nk_hp S3.ld r3, dp, hv, kQ v P3 H3 S3 e3 rv⟩
/-- x in d, x not in d, d a slot's own dict -/
theorem jt_inO (i : Nat) {neg : Bool} {op : CmpOp} (hop : op = if neg then .NotIn else .In) (ho : ∀ j, PE (F j) b (tVar i)) {ks : List NestedKey} (ha : JE F a ss (pNK (.tup ks)) ss1) (hs1 : ss1[i]? = some (.ow (oD w Es)) := by rfl) (dp : (NestedKey.tup ks).depth ≤ 8) (hu : ∀ i, (F i).A.units + 16 < cLine) (hm : behindInMarks op b = false) (hw : ∀ i, (F i).w = w := by intro _; rfl) :
    JT F (.Compare a [op] [b] pos) ss (if neg then !(atE Es (.tup ks)).isSome else (atE Es (.tup ks)).isSome) ss1 := fun xs P0 H0 ow σ P H S Q kQ => by
  refine ⟨tTest (tOp (rInN w neg) (XE F a) (tVar i)), fun j => ?_, ?_⟩
  · subst hop
    cases neg with
    | false => exact pt_cmpR (hw j ▸ op_inN (hu j)) (xe j) (ho j) hm
    | true => exact pt_cmpR (hw j ▸ op_notInN (hu j)) (xe j) (ho j) hm
  · refine ha _ _ _ _ _ _ _ S _ fun u P3 H3 S3 e3 r3 => ?_
    obtain ⟨d, o, ys, ev, hd, D⟩ := S3.ownD hs1
    obtain ⟨q, rfl⟩ := nk_ref r3
    refine ⟨.ref d, ev, d, q, _, ys, rfl, rfl, D.dh S3.ld hd, nk_hp S3.ld r3, dp, _, ?_, kQ P3 H3 S3 e3⟩
    rw [D.ep.atS]
theorem je_lenDO (i : Nat) (ho : ∀ j, PE (F j) a (tVar i)) (hs : ss[i]? = some (.ow (oD w Es)) := by rfl) (hm : ∀ i, (F i).mg "len" = none) (hg : ∀ i, Gl (F i) "len" := by intro _; rfl) (he : ∀ i, starEach [a] (F i).env = (false, eval a (F i).env) :: starEach [] (F i).env := by intro _; rfl)
    (hpl : ∀ i, (backTo pos (starEach [] (F i).env)).any (·.1) = false := by intro _; rfl) (hw : ∀ i, (F i).w = w := by intro _; rfl) : JE F (.Call (.Name "len" p) [a] [] pos) ss (pI (Es.length : Int)) ss := fun xs P0 H0 ow σ P H S Q kQ => by
  obtain ⟨d, o, ys, ev, hd, D⟩ := S.ownD hs
  refine ⟨tCB (rLenN w) (tCons (tVar i) tNil), fun j => pe_callB (r := rLenN w) (hw j ▸ cr_lenN) (hg j) (hm j) boot_len (pa_cons (ho j) pa_nil (he j)) (by decide) (by decide) (he j) (hpl j), _, ev, d, ys, rfl, ⟨o, hd, D.ob, D.sm, D.sz⟩, kQ _ P H S (Same.refl _) ?_⟩
  rw [D.ep.len]
  rfl
/-- d.setdefault(e, f), d a slot's own dict -/
theorem je_setdef (i : Nat) {e f : Expr} {R' : Pr} (ho : ∀ j, PE (F j) a (tVar i)) {ks : List NestedKey} (he : JE F e ss (pNK (.tup ks)) ss) (hf : JE F f ss R ss) (hs0 : ss[i]? = some (.ow (oD w Es)) := by rfl) (dp : (NestedKey.tup ks).depth ≤ 8) (hl : Es.length < sizeLine) (hu : ∀ i, (F i).A.units + 16 < cLine)
    (h1 : ∀ R1, atE Es (.tup ks) = some R1 → R1 = R') (h2 : atE Es (.tup ks) = none → R = R') (m : ∀ j, M2 (F j) a "setdefault" apos e f cpos) (hw : ∀ i, (F i).w = w := by intro _; rfl) :
    JE F (.Call (.Attribute a "setdefault" apos) [e, f] [] cpos) ss R' (ss.set i (.ow (oD w (if (atE Es (.tup ks)).isSome then Es else Es ++ [(.tup ks, R)])))) := by
  intro xs P0 H0 ow σ P H S Q kQ
  obtain ⟨d, o, ys, ev, hd, D⟩ := S.ownD hs0
  refine ⟨tSetdef w (tVar i) (XE F e) (XE F f), fun j => by have q := pe_setdef (hu j) (ho j) (xe (F := F) (e := e) j) (xe (F := F) (e := f) j) (m j); rw [hw j] at q; exact q, .ref d, ev, d, ys, rfl, D.dh S.ld hd, ?_⟩
  refine he _ _ _ _ _ _ _ S.here _ fun y P2 H2 S2 e2 r2 => hf _ _ _ _ _ _ _ S2 _ fun v P3 H3 S3 e3 r3 => ?_
  obtain ⟨d', o', ys', ev', hd', D'⟩ := S3.ownD hs0
  rw [ev] at ev'
  obtain rfl : d = d' := by injection ev' with z; injection z with z; injection z
  have nk := NK.up e3 _ _ r2
  obtain ⟨q, rfl⟩ := nk_ref nk
  refine ⟨q, _, ys', rfl, D'.dh S3.ld hd', nk_hp S3.ld nk, dp, by rw [D'.ep.len]; exact hl, fun z hz => ?_, fun hn ob hob => ?_⟩
  · rcases D'.ep.at (.tup ks) with ⟨q1, q2⟩ | ⟨R1, v1, q1, q2, r1⟩
    · rw [hz] at q2; cases q2
    · rw [hz] at q2
      cases q2
      have e1 := h1 R1 q1
      subst e1
      have S4 := S.back S3 fun a ha => .inl ha
      refine kQ z P3 H3 ?_ (e2.trans e3) r1
      rw [q1]
      simp only [Option.isSome_some, if_true]
      have : ss.set i (.ow (oD w Es)) = ss := List.ext_getElem? fun j => by
        by_cases hj : i = j
        · subst hj
          rw [List.getElem?_set_self (List.getElem?_eq_some_iff.mp hs0).1, hs0]
        · rw [List.getElem?_set_ne hj]
      rw [this]
      exact S4
  · have hnE : atE Es (.tup ks) = none := by
      rcases D'.ep.at (.tup ks) with ⟨q1, _⟩ | ⟨R1, v1, q1, q2, _⟩
      · exact q1
      · rw [hn] at q2; cases q2
    have S4 := S.back S3 fun a ha => .inl ha
    obtain ⟨u, fp, ev', ⟨d2, o2, ys2, rfl, rfl, hd2, D2⟩, _, put⟩ := S4.ownedS hs0
    rw [ev] at ev'
    obtain rfl : d = d2 := by injection ev' with z; injection z with z; injection z
    have DP := D'.put (R := R) r3 nk dp (by rw [D'.ep.len]; exact hl) hob
    have hput : putE Es (.tup ks) R = Es ++ [(.tup ks, R)] := by unfold putE; rw [hnE]; rfl
    rw [hput] at DP
    have S5 := put (upd H3 d (pin d ob)) (oD w (Es ++ [(.tup ks, R)])) (fun b hb => upd_ne (fun z => hb (by simp [z]))) (fun b hb => by
      have hb : b = d := by simpa using hb
      rw [hb, upd_same]
      exact Option.some_ne_none _) ⟨d, ob, _, rfl, rfl, upd_same, DP⟩
    refine kQ v P3 _ ?_ (e2.trans e3) (h2 hnE ▸ r3)
    rw [hnE]
    exact S5
end
end Ly
/-! Dicts with nested keys: written, walked, made by comprehensions. -/
namespace Ly
open PySem PySem.Spec PyProof.Rows L2
section
variable {X : Cx} {w : World} {xs : List Addr} {P0 H0 : Hp} {ow : List Addr} {σ : L2.St} {P H : Hp} {ss ss1 ss2 : List Sl} {R : Pr} {D : Ends} {rest : List Stmt} {e : Expr} {pos : Pos} {Es : List (NestedKey × Pr)}
/-- o[b] = e, o a slot's own dict -/
theorem w_setD (i : Nat) {o b : Expr} {p : Pos} {ks : List NestedKey} (S : S8 xs P0 H0 ow σ P H ss) (h : JE (C1 X) e ss R ss1) (ho : ∀ j, PE (C1 X j) o (tVar i)) (hb : JE (C1 X) b ss1 (pNK (.tup ks)) ss1) (hs1 : ss1[i]? = some (.ow (oD w Es)) := by rfl) (dp : (NestedKey.tup ks).depth ≤ 8) (hl : Es.length < sizeLine) (hu : X.A.units + 16 < cLine)
    (k : ∀ ow P H, S8 xs P0 H0 ow σ P H (ss1.set i (.ow (oD w (putE Es (.tup ks) R)))) → XS X rest D σ H) (hw' : X.w = w := by rfl)
    (ha : ∀ v, assign (.Subscript o b p) X.env v = (do
      let ov ← holding [v] (eval o X.env)
      let iv ← holding [v, ov] (eval b X.env)
      standAt p
      holding [v, ov, iv] (setItem ov iv v)
      release [v, ov, iv] []) := by intro _; rfl)
    (hw : swapsWithSole [.Subscript o b p] e pos.line X.env = pure false := by rfl) (hw2 : swappedStores [.Subscript o b p] e X.env = pure none := by rfl) (h1 : (assignEach [.Subscript o b p] X.env).map (·.2) = [assign (.Subscript o b p) X.env] := by rfl) :
    XS X (.Assign [.Subscript o b p] e pos :: rest) D σ H := by
  subst hw'
  refine w_cons ⟨_, ps_asg (xe (F := C1 X) ()) (pg_sub (ho ()) (xe (F := C1 X) ()) (set_N hu) ha) hw hw2 h1, ?_⟩
  refine h _ _ _ _ _ _ _ S _ fun v P2 H2 S2 e2 r2 => ?_
  obtain ⟨d, ob, ys, ev, hd, Dd⟩ := S2.ownD hs1
  refine ⟨.ref d, ev, hb _ _ _ _ _ _ _ S2 _ fun u P3 H3 S3 e3 r3 => ?_⟩
  obtain ⟨u', fp, ev', ⟨d', o', ys', rfl, rfl, hd', D'⟩, _, put⟩ := S3.ownedS hs1
  rw [ev] at ev'
  obtain rfl : d = d' := by injection ev' with z; injection z with z; injection z
  obtain ⟨q, rfl⟩ := nk_ref r3
  refine ⟨d, q, _, ys', rfl, rfl, D'.dh S3.ld hd', nk_hp S3.ld r3, dp, by rw [D'.ep.len]; exact hl, fun o'' ho'' => ?_⟩
  exact k ow P3 _ (put (upd H3 d (pin d o'')) (oD X.w (putE Es (.tup ks) R)) (fun b hb => upd_ne (fun z => hb (by simp [z]))) (fun b hb => by
    have hb : b = d := by simpa using hb
    rw [hb, upd_same]
    exact Option.some_ne_none _) ⟨d, o'', _, rfl, rfl, upd_same, D'.put (R.up e3 r2) r3 dp (by rw [D'.ep.len]; exact hl) ho''⟩)
end
theorem dobj_new (w : World) : DObj w { cls := .type "dict", data := .dict #[] } [] := ⟨⟨rfl, rfl, rfl⟩, #[], 0, [], rfl, rfl, List.nodup_nil, .nil⟩
def tNewN : TE := fun _ H Q => ∀ p, H p = none → (p == sysModules) = false → Q (.ref p) (upd H p (pin p { cls := .type "dict", data := .dict #[] }))
theorem pe_newN {X : Cx} {pos : Pos} : PE X (.Dict [] [] pos) tNewN := ⟨fun pins s σ H Q I h =>
  wpAny_Dict_empty ⟨.ref s.heap.objs.size, _, I.laid (a := s.heap.objs.size) (o := pin s.heap.objs.size { cls := .type "dict", data := .dict #[] }) (t' := s.toks) (fun _ _ q => Heap.get?_push_of_some _ q) (Nat.le_refl _) (pin_ok (Heap.get?_push_size _ rfl)), rfl,
    h _ (I.hok.fresh (Nat.le_refl _)) (beq_eq_false_iff_ne.mpr (Ne.symm (Nat.ne_of_lt I.big)))⟩⟩
theorem dd_nil {w : World} {P : Hp} {d : Addr} (h : (d == sysModules) = false) : DD w P [] d { cls := .type "dict", data := .dict #[] } [] := ⟨dobj_new w, h, Nat.zero_le _, fun x hx => absurd hx (by simp), .nil⟩
section
variable {ι : Type} {F : ι → Cx} {K : PySem.W.Frag} {w : World} {ss ss1 ss2 : List Sl} {R Ra : Pr} {e tg : Expr} {pos apos cpos p : Pos} {k : NestedKey} {Es : List (NestedKey × Pr)}
theorem jn_dict : JN F (.Dict [] [] pos) ss (oD w []) ss := fun xs P0 H0 ow σ P H S Q kQ =>
  ⟨tNewN, fun _ => pe_newN, fun d hd hs => by
    have g := Gr.junk S.ld hd (pin d { cls := .type "dict", data := .dict #[] })
    refine kQ (.ref d) [d] P _ (S.grow g) (Same.refl _) (fun a ha => ?_) ⟨d, _, [], rfl, rfl, upd_same, dd_nil hs⟩
    have : a = d := by simpa using ha
    subst this
    exact ⟨hd, S.ld.none hd, by rw [upd_same]; exact Option.some_ne_none _⟩⟩
theorem ep_at {P : Hp} {Es : List (NestedKey × Pr)} {xs : List DE} (h : EP P Es xs) {i : Nat} {y : DE} (e : xs[i]? = some y) : ∃ E, Es[i]? = some E ∧ y.1 = E.1 ∧ E.2.p P y.2.2 := by
  induction h generalizing i with
  | nil => simp at e
  | @cons E x Es xs r t ih =>
    cases i with
    | zero =>
      have e : x = y := by simpa using e
      subst e
      exact ⟨E, rfl, r⟩
    | succ i => exact ih (by simpa using e)
theorem it_dict {α : Type} {P2 : Hp} {d : Addr} {o : Obj} {xs : List DE} {Rl : List Pr} {yl : Nat → Hp → V → Hp → Prop} (D : DD w P2 Es d o xs) (hd : P2 d = some (pin d o)) (hl : Rl.length = Es.length)
    (hy : ∀ (i : Nat) (E : NestedKey × Pr) (y : DE) (P' H' : Hp) (x : V) (H'' : Hp), Es[i]? = some E → xs[i]? = some y → y.1 = E.1 → NK P' y.1 (.ref y.2.1) → E.2.p P' y.2.2 → Ld P' H' → yl i H' x H'' → ∃ R P'', Rl[i]? = some R ∧ Gr P' H' P'' H'' ∧ R.p P'' x) : ItOk (ItN d o xs.length yl) Rl P2 := by
  have hxl : xs.length = Rl.length := by rw [hl, D.ep.len]
  refine ⟨fun i P' H' hi l s => ⟨l.at (s _ _ hd) (fun z => z), by omega⟩, fun i R P' H' x H'' hR l s y => ?_, fun P' H' l s => ⟨l.at (s _ _ hd) (fun z => z), by omega⟩⟩
  have hi : i < xs.length := by rw [hxl]; exact (List.getElem?_eq_some_iff.mp hR).1
  have ex : xs[i]? = some xs[i] := List.getElem?_eq_getElem hi
  have D' := D.up s
  obtain ⟨E, e1, e2, e3⟩ := ep_at D'.ep ex
  obtain ⟨R', P'', f1, f2, f3⟩ := hy i E xs[i] P' H' x H'' e1 ex e2 (D'.ks _ (List.getElem_mem hi)).1 e3 l y
  rw [hR] at f1
  cases f1
  exact ⟨P'', f2, f3⟩
theorem ji_keysD (h : JE F e ss (pD w Es) ss1) (hw : ∀ i, (F i).w = w := by intro _; rfl) : JI F tg e ss (Es.map fun E => pNK E.1) ss1 := fun xs P0 H0 ow σ P H S Rr k =>
  ⟨iKeysN w (XE F e), fun i => by have q := pi_keysN (tg := tg) (xe (F := F) (e := e) i); rw [hw i] at q; exact q, h _ _ _ _ _ _ _ S _ fun v P2 H2 S2 e2 ⟨d, o, ys, ev, hd, D⟩ => by
    subst ev
    refine ⟨d, o, ys, rfl, ⟨S2.ld.at hd (fun z => z), D.ob, D.sm⟩, k _ P2 H2 S2 e2 (it_dict (α := Unit) D hd (by rw [List.length_map]) fun i E y P' H' x H'' e1 e2 e3 nk r l z => ?_)⟩
    obtain ⟨rfl, y', e2', rfl⟩ := z
    rw [e2] at e2'
    cases e2'
    exact ⟨_, P', by rw [List.getElem?_map, e1]; rfl, Gr.refl l, by show NK P' E.1 _; rw [← e3]; exact nk⟩⟩
theorem ji_valsD (h : JE F e ss (pD w Es) ss1) (hbase : ∀ i, attributeBase e "values" (F i).env (eval e (F i).env) = eval e (F i).env := by intro _; rfl) (hline : (apos.endLine == cpos.line) = true := by rfl) (hw : ∀ i, (F i).w = w := by intro _; rfl) :
    JI F tg (.Call (.Attribute e "values" apos) [] [] cpos) ss (Es.map fun E => E.2) ss1 := fun xs P0 H0 ow σ P H S Rr k =>
  ⟨iValsN w (XE F e), fun i => by have q := pi_valsN (tg := tg) (xe (F := F) (e := e) i) (hbase i) hline; rw [hw i] at q; exact q, h _ _ _ _ _ _ _ S _ fun v P2 H2 S2 e2 ⟨d, o, ys, ev, hd, D⟩ => by
    subst ev
    refine ⟨d, o, ys, rfl, ⟨S2.ld.at hd (fun z => z), D.ob, D.sm⟩, k _ P2 H2 S2 e2 (it_dict (α := Unit) D hd (by rw [List.length_map]) fun i E y P' H' x H'' e1 e2 e3 nk r l z => ?_)⟩
    obtain ⟨rfl, y', e2', rfl⟩ := z
    rw [e2] at e2'
    cases e2'
    exact ⟨_, P', by rw [List.getElem?_map, e1]; rfl, Gr.refl l, r⟩⟩
theorem ji_itemsD (K : PySem.W.Frag) {elts : List Expr} {kk : Nat} {tpos : Pos} (h : JE F e ss (pD w Es) ss1) (hbase : ∀ i, attributeBase e "items" (F i).env (eval e (F i).env) = eval e (F i).env := by intro _; rfl) (hline : (apos.endLine == cpos.line) = true := by rfl) (hw : ∀ i, (F i).w = w := by intro _; rfl) :
    JI F (.Tuple elts kk tpos) (.Call (.Attribute e "items" apos) [] [] cpos) ss (Es.map fun E => pT K [pNK E.1, E.2]) ss1 := fun xs P0 H0 ow σ P H S Rr k =>
  ⟨iItemsN w (XE F e), fun i => by have q := pi_itemsN (elts := elts) (kk := kk) (tpos := tpos) (xe (F := F) (e := e) i) (hbase i) hline; rw [hw i] at q; exact q, h _ _ _ _ _ _ _ S _ fun v P2 H2 S2 e2 ⟨d, o, ys, ev, hd, D⟩ => by
    subst ev
    refine ⟨d, o, ys, rfl, ⟨S2.ld.at hd (fun z => z), D.ob, D.sm⟩, k _ P2 H2 S2 e2 (it_dict (α := Unit) D hd (by rw [List.length_map]) fun i E y P' H' x H'' e1 e2 e3 nk r l z => ?_)⟩
    obtain ⟨T, y', e2', rfl, hT, rfl⟩ := z
    rw [e2] at e2'
    cases e2'
    have g := Gr.new l hT (.tup [.ref y.2.1, y.2.2])
    exact ⟨pT K [pNK E.1, E.2], _, by rw [List.getElem?_map, e1]; rfl, g, T, _, rfl, upd_same, .cons (by show NK _ E.1 _; rw [← e3]; exact NK.up g.p _ _ nk) (.cons (Pr.up _ g.p r) .nil), le_line (by simp)⟩⟩
/-! ### dict comprehensions -/
def accD (w : World) : Acc (List (NestedKey × Pr)) := ⟨fun Es P D o => ∃ ob xs, o = pin D ob ∧ DD w P Es D ob xs, fun e ⟨ob, xs, h1, h2⟩ => ⟨ob, xs, h1, h2.up e⟩⟩
theorem jb_dict {kx vx : Expr} {vs : List Nat} {ks : List NestedKey} (hx : ∀ i, (F i).xe = fun _ _ => False) (hk : JE F kx ss (pNK (.tup ks)) ss) (hv : JE F vx ss R ss) (dp : (NestedKey.tup ks).depth ≤ 8) (hu : ∀ i, (F i).A.units + 16 < cLine) (hw : ∀ i, (F i).w = w := by intro _; rfl) :
    JB F vs (emD kx vx) (accD w) ss (fun Es => putE Es (.tup ks) R) (fun Es => Es.length < sizeLine) := fun D σ P H o Es S pd hd h0 hl Q kQ => by
  refine ⟨fun σ H Q => XE F kx σ H fun y H1 => XE F vx σ H1 fun z H2 => ∃ a k xs, y = .ref a ∧ DAt w H2 D xs ∧ DKs H2 xs ∧ NK H2 k (.ref a) ∧ k.depth ≤ 8 ∧ xs.length < sizeLine ∧ ∀ o, DObj w o (putD xs k a z) → Q (upd H2 D (pin D o)), fun i => ?_, ?_⟩
  · have q := pb_dict (vs := vs) (D := D) (hx i) (hu i) (xe (F := F) (e := kx) i) (xe (F := F) (e := vx) i)
    rw [hw i] at q
    exact q
  refine hk _ _ _ _ _ _ _ S _ fun y P2 H2 S2 e2 r2 => hv _ _ _ _ _ _ _ S2 _ fun z P3 H3 S3 e3 r3 => ?_
  have nk := NK.up e3 _ _ r2
  obtain ⟨a, rfl⟩ := nk_ref nk
  obtain ⟨ob, xs, rfl, DD0⟩ := (accD w).up (e2.trans e3) h0
  have hd3 : H3 D = some (pin D ob) := S3.gr.h _ _ hd
  have pd3 : P3 D = none := S3.gr.n D (by rw [hd]; exact Option.some_ne_none _) pd
  have hl' : xs.length < sizeLine := by rw [DD0.ep.len]; exact hl
  refine ⟨a, _, xs, rfl, ⟨ob, hd3, DD0.ob, DD0.sm, DD0.sz⟩, DD0.ks.hp S3.ld, nk_hp S3.ld nk, dp, hl', fun o' ho' => ?_⟩
  exact kQ P3 _ (pin D o') ((S3.gr.gd D).upd pd3 _) upd_same ⟨o', _, rfl, DD0.put r3 nk dp hl' ho'⟩
theorem hmk_dict {X : Cx} (s : Shared) (Q : Value → Shared → Prop) (h : Q (.ref s.heap.objs.size) { s with heap := s.heap.push { cls := .type "dict", data := .dict #[] } }) : wpAny (model X.prog X.w) X.A newDict Q X.xe s := wpAny_newObj_type h
theorem hu0_dict {prog : Program} {w : World} (H : Hp) (h : Heap) (_ : sysModules < h.objs.size) : ObjOk prog w H (h.push { cls := .type "dict", data := .dict #[] }) h.objs.size (pin h.objs.size { cls := .type "dict", data := .dict #[] }) := pin_ok (Heap.get?_push_size _ rfl)
end
section
variable {ι : Type} {F : ι → Cx} {w : World} {ss ss1 : List Sl} {kx vx tg iter : Expr} {ifs : List Expr} {scope : Scope} {pos : Pos} {α : Type} {ys : List α} {r : α → Pr} {js : List Nat} {f : α → List Sl → List Sl} {t : α → Bool}
theorem putE_len (Es : List (NestedKey × Pr)) (k : NestedKey) (R : Pr) : (putE Es k R).length ≤ Es.length + 1 := by
  unfold putE
  split <;> simp
theorem ok_dict {P : Hp} {D : Addr} (h : (D == sysModules) = false) : (accD w).ok [] P D (pin D { cls := .type "dict", data := .dict #[] }) := ⟨_, [], rfl, dd_nil h⟩
/-- {k: v for tg in iter if ..} -/
theorem jm_dc1 (own : List (Str × Nat)) (ssE : List Sl) (ks : α → List NestedKey) (Rv : α → Pr) (hi : JI F tg iter ss (ys.map r) ss1) (ok : ∀ i, BlkOk (F i).N (F i).env.scope scope own) (hw : Wk ss1 ssE) (hno : noOw ssE = true) (hg : ∀ y, JG (FB F scope) tg js (r y) (f y)) (hjs : ∀ j ∈ js, j ∈ own.map (·.2)) (hjl : ∀ j ∈ js, j < ssE.length)
    (ht : ∀ y, y ∈ ys → JTs (FB F scope) ifs (f y (wipeS ssE (own.map (·.2)))) (t y) (f y (wipeS ssE (own.map (·.2))))) (hk : ∀ y, y ∈ ys → t y = true → JE (FB F scope) kx (f y (wipeS ssE (own.map (·.2)))) (pNK (.tup (ks y))) (f y (wipeS ssE (own.map (·.2)))))
    (hv : ∀ y, y ∈ ys → t y = true → JE (FB F scope) vx (f y (wipeS ssE (own.map (·.2)))) (Rv y) (f y (wipeS ssE (own.map (·.2))))) (dp : ∀ y, y ∈ ys → (NestedKey.tup (ks y)).depth ≤ 8) (hz : ys.length ≤ sizeLine) (hu : ∀ i, (F i).A.units + 16 < cLine) (hN : ∀ i, (F i).N.Nodup)
    (hww : ∀ i, (F i).w = w := by intro _; rfl) (hc : ∀ i, (F i).calm = true := by intro _; rfl) (hs : ∀ i x, foldedSetIterable iter (F i).env x = pure x := by intro _ _; rfl) :
    JM F (.DictComp kx vx [⟨tg, iter, ifs, 0⟩] scope pos) ss (oD w (accOf t (fun y Es => putE Es (.tup (ks y)) (Rv y)) [] ys)) ss1 := by
  have hlen : ∀ pre : List α, (accOf t (fun y Es => putE Es (.tup (ks y)) (Rv y)) [] pre).length ≤ pre.length := fun pre => by
    have key : ∀ (l : List α) (b : List (NestedKey × Pr)), (l.foldl (fun b y => putE b (.tup (ks y)) (Rv y)) b).length ≤ b.length + l.length := by
      intro l
      induction l with
      | nil => intro b; simp
      | cons y l ih =>
        intro b
        rw [List.foldl_cons, List.length_cons]
        have h1 := ih (putE b (.tup (ks y)) (Rv y))
        have h2 := putE_len b (.tup (ks y)) (Rv y)
        omega
    exact Nat.le_trans (key (pre.filter t) []) (by simpa using List.length_filter_le t pre)
  exact jm_comp (bd := emD kx vx) (lim := fun _ Es => Es.length < sizeLine) (st := fun y Es => putE Es (.tup (ks y)) (Rv y)) own [] (accD w) ssE (fun i => arm_eval_DictComp ..) (fun _ _ => rfl) rfl (compC_dict (g := ⟨tg, iter, ifs, 0⟩) rfl rfl) (fun _ _ _ => rfl) (fun i s Q h => hmk_dict (X := F i) s Q h) rfl (fun i H h hb => hu0_dict H h hb) (fun P D h => ok_dict h)
    (fun P H D o b ⟨ob, xs, h1, h2⟩ hd e => ⟨D, ob, xs, rfl, rfl, by rw [hd, h1], e ▸ h2⟩) hi ok hw hno hg hjs hjl ht (fun y hy h => jb_dict (fun _ => rfl) (hk y hy h) (hv y hy h) (dp y hy) (fun i => hu i.1) (fun i => hww i.1)) (fun pre y post e _ => by
      have h1 := hlen pre
      have h2 : ys.length = pre.length + (post.length + 1) := by rw [e, List.length_append, List.length_cons]
      omega) hN hc hs
end
end Ly
/-! Comprehensions with two and three clauses; sets of tuples; more of lists. -/
namespace Ly
open PySem PySem.Spec PyProof.Rows L2
def all {α : Type} : α → Bool := fun _ => true
theorem accOf_all {α β : Type} (st : α → β → β) (b : β) (ys : List α) : accOf all st b ys = ys.foldl (fun b y => st y b) b := by
  unfold accOf
  have e : ys.filter all = ys := List.filter_eq_self.mpr (fun _ _ => rfl)
  rw [e]
def putAll {γ : Type} (ks : γ → List NestedKey) (R : γ → Pr) (E : List (NestedKey × Pr)) (us : List γ) : List (NestedKey × Pr) := us.foldl (fun E u => putE E (.tup (ks u)) (R u)) E
theorem putAll_len {γ : Type} (ks : γ → List NestedKey) (R : γ → Pr) : ∀ (us : List γ) (E : List (NestedKey × Pr)), (putAll ks R E us).length ≤ E.length + us.length
  | [], E => by simp [putAll]
  | u :: us, E => by
    have h1 := putAll_len ks R us (putE E (.tup (ks u)) (R u))
    have h2 := putE_len E (.tup (ks u)) (R u)
    unfold putAll at h1 ⊢
    rw [List.foldl_cons, List.length_cons]
    omega
theorem foldl_flat {α γ β : Type} (g : β → γ → β) (us : α → List γ) : ∀ (ys : List α) (b : β), ys.foldl (fun b y => (us y).foldl g b) b = (ys.flatMap us).foldl g b
  | [], b => rfl
  | y :: ys, b => by rw [List.foldl_cons, List.flatMap_cons, List.foldl_append, foldl_flat g us ys]
section
variable {ι : Type} {F : ι → Cx} {w : World} {ss ss1 : List Sl} {kx vx tg iter tg1 i1 tg2 i2 : Expr} {scope : Scope} {pos : Pos} {α α1 γ : Type} {ys : List α} {r : α → Pr} {js js1 js2 : List Nat} {f f1 f2 : List Sl → List Sl}
/-- {k: v for tg in iter for tg1 in i1 for tg2 in i2}, key and value by the innermost item -/
theorem jm_dc3 (own : List (Str × Nat)) (ssE : List Sl) (ks : γ → List NestedKey) (Rv : γ → Pr) (zs : α → List α1) (r1 : α1 → Pr) (us : α1 → List γ) (r2 : γ → Pr) (s0 : α → List Sl) (s1 : α → α1 → List Sl) (s2 : α → α1 → γ → List Sl) (hi : JI F tg iter ss (ys.map r) ss1) (ok : ∀ i, BlkOk (F i).N (F i).env.scope scope own) (hw : Wk ss1 ssE) (hno : noOw ssE = true)
    (hjs : ∀ j ∈ js ++ (js1 ++ js2), j ∈ own.map (·.2)) (hjl : ∀ j ∈ js, j < ssE.length) (g0 : α → List Sl → List Sl) (g1 : α → α1 → List Sl → List Sl) (g2 : α → α1 → γ → List Sl → List Sl)
    (hg : ∀ y, JG (FB F scope) tg js (r y) (g0 y)) (e0 : ∀ y, g0 y (wipeS ssE (own.map (·.2))) = s0 y) (n0 : ∀ y, noOw (s0 y) = true) (l1 : ∀ y, ∀ j ∈ js1, j < (s0 y).length)
    (hi1 : ∀ y ∈ ys, JI (FB F scope) tg1 i1 (s0 y) ((zs y).map r1) (s0 y)) (hg1 : ∀ y z, JG (FB F scope) tg1 js1 (r1 z) (g1 y z)) (e1 : ∀ y z, g1 y z (wipeS (s0 y) (own.map (·.2))) = s1 y z) (n1 : ∀ y z, noOw (s1 y z) = true) (l2 : ∀ y z, ∀ j ∈ js2, j < (s1 y z).length)
    (hi2 : ∀ y ∈ ys, ∀ z ∈ zs y, JI (FB F scope) tg2 i2 (s1 y z) ((us z).map r2) (s1 y z)) (hg2 : ∀ y z u, JG (FB F scope) tg2 js2 (r2 u) (g2 y z u)) (e2 : ∀ y z u, g2 y z u (wipeS (s1 y z) (own.map (·.2))) = s2 y z u)
    (hk : ∀ y ∈ ys, ∀ z ∈ zs y, ∀ u ∈ us z, JE (FB F scope) kx (s2 y z u) (pNK (.tup (ks u))) (s2 y z u)) (hv : ∀ y ∈ ys, ∀ z ∈ zs y, ∀ u ∈ us z, JE (FB F scope) vx (s2 y z u) (Rv u) (s2 y z u)) (dp : ∀ u, (NestedKey.tup (ks u)).depth ≤ 8)
    (hz : (ys.flatMap fun y => (zs y).flatMap us).length ≤ sizeLine) (hu : ∀ i, (F i).A.units + 16 < cLine) (hN : ∀ i, (F i).N.Nodup)
    (hww : ∀ i, (F i).w = w := by intro _; rfl) (hc : ∀ i, (F i).calm = true := by intro _; rfl) (hs : ∀ i x, foldedSetIterable iter (F i).env x = pure x := by intro _ _; rfl) (hs1 : ∀ i x, foldedSetIterable i1 (FB F scope i).env x = pure x := by intro _ _; rfl) (hs2 : ∀ i x, foldedSetIterable i2 (FB F scope i).env x = pure x := by intro _ _; rfl) :
    JM F (.DictComp kx vx [⟨tg, iter, [], 0⟩, ⟨tg1, i1, [], 0⟩, ⟨tg2, i2, [], 0⟩] scope pos) ss (oD w (putAll ks Rv [] (ys.flatMap fun y => (zs y).flatMap us))) ss1 := by
  let c : Expr := .DictComp kx vx [⟨tg, iter, [], 0⟩, ⟨tg1, i1, [], 0⟩, ⟨tg2, i2, [], 0⟩] scope pos
  let vs := own.map (·.2)
  -- the innermost
  have b3 : ∀ y ∈ ys, ∀ z ∈ zs y, ∀ u ∈ us z, JB (FB F scope) vs (emD kx vx) (accD w) (s2 y z u) (fun E => putE E (.tup (ks u)) (Rv u)) (fun E => E.length < sizeLine) := fun y hy z hz u hu' =>
    jb_dict (fun _ => rfl) (hk y hy z hz u hu') (hv y hy z hz u hu') (dp u) (fun i => hu i.1) (fun i => hww i.1)
  have b2 : ∀ y ∈ ys, ∀ z ∈ zs y, JB (FB F scope) vs (fun acc env => nextOf c 2 i2 acc env) (accD w) (s1 y z) (fun E => putAll ks Rv E (us z)) (fun E => E.length + (us z).length ≤ sizeLine) := fun y hy z hz => by
    have q := jb_next (vs := vs) (A := accD w) (F := FB F scope) (c := c) (kk := 2) (ifs := []) (t := all) (ys := us z) (r := r2) (js := js2) (f := fun u => g2 y z u) (ss := s1 y z) (st := fun u E => putE E (.tup (ks u)) (Rv u)) (lim := fun _ E => E.length < sizeLine) (bd := emD kx vx) (b0 := fun E => E.length + (us z).length ≤ sizeLine)
      (fun _ => rfl) (fun i => hc i.1) (compC_dict (g := ⟨tg2, i2, [], 0⟩) rfl rfl) (fun _ _ _ => rfl) hs2 (hi2 y hy z hz) (n1 y z) (fun u => hg2 y z u) (fun j hj => hjs j (List.mem_append_right _ (List.mem_append_right _ hj))) (l2 y z) (fun u _ => jts_nil) (fun u hu' _ => by rw [show g2 y z u (wipeS (s1 y z) vs) = s2 y z u from e2 y z u]; exact b3 y hy z hz u hu')
      (fun E hE pre u post e _ => by
        rw [accOf_all]
        have h1 := putAll_len ks Rv pre E
        unfold putAll at h1
        have h2 : (us z).length = pre.length + (post.length + 1) := by rw [e, List.length_append, List.length_cons]
        omega)
    have e : (fun E : List (NestedKey × Pr) => accOf all (fun u E => putE E (.tup (ks u)) (Rv u)) E (us z)) = fun E => putAll ks Rv E (us z) := funext fun E => accOf_all _ _ _
    rw [e] at q
    exact q
  have cnt : ∀ (l : List α1) (E : List (NestedKey × Pr)), (l.foldl (fun E z => putAll ks Rv E (us z)) E).length ≤ E.length + (l.flatMap us).length := fun l E => by
    have e : (l.foldl (fun E z => putAll ks Rv E (us z)) E) = putAll ks Rv E (l.flatMap us) := foldl_flat (fun E u => putE E (.tup (ks u)) (Rv u)) us l E
    rw [e]
    exact putAll_len ks Rv _ _
  have b1 : ∀ y ∈ ys, JB (FB F scope) vs (fun acc env => nextOf c 1 i1 acc env) (accD w) (s0 y) (fun E => (zs y).foldl (fun E z => putAll ks Rv E (us z)) E) (fun E => E.length + ((zs y).flatMap us).length ≤ sizeLine) := fun y hy => by
    have q := jb_next (vs := vs) (A := accD w) (F := FB F scope) (c := c) (kk := 1) (p := i1.pos) (ifs := []) (t := all) (ys := zs y) (r := r1) (js := js1) (f := fun z => g1 y z) (ss := s0 y) (st := fun z E => putAll ks Rv E (us z)) (lim := fun z E => E.length + (us z).length ≤ sizeLine) (bd := fun acc env => nextOf c 2 i2 acc env) (b0 := fun E => E.length + ((zs y).flatMap us).length ≤ sizeLine)
      (fun _ => rfl) (fun i => hc i.1) (compC_dict (g := ⟨tg1, i1, [], 0⟩) rfl rfl) (fun _ _ _ => by unfold turnOf nextOf; simp only [bind_assoc, pure_bind]; rfl) hs1 (hi1 y hy) (n0 y) (fun z => hg1 y z) (fun j hj => hjs j (List.mem_append_right _ (List.mem_append_left _ hj))) (l1 y) (fun u _ => jts_nil) (fun z hz _ => by rw [show g1 y z (wipeS (s0 y) vs) = s1 y z from e1 y z]; exact b2 y hy z hz)
      (fun E hE pre z post e _ => by
        rw [accOf_all]
        have h1 := cnt pre E
        have h2 : ((zs y).flatMap us).length = (pre.flatMap us).length + ((us z).length + (post.flatMap us).length) := by rw [e, List.flatMap_append, List.flatMap_cons, List.length_append, List.length_append]
        omega)
    have e : (fun E : List (NestedKey × Pr) => accOf all (fun z E => putAll ks Rv E (us z)) E (zs y)) = fun E => (zs y).foldl (fun E z => putAll ks Rv E (us z)) E := funext fun E => accOf_all _ _ _
    rw [e] at q
    exact q
  have fin : accOf all (fun y (E : List (NestedKey × Pr)) => (zs y).foldl (fun E z => putAll ks Rv E (us z)) E) [] ys = putAll ks Rv [] (ys.flatMap fun y => (zs y).flatMap us) := by
    rw [accOf_all]
    have e : (fun (E : List (NestedKey × Pr)) (y : α) => (zs y).foldl (fun E z => putAll ks Rv E (us z)) E) = fun E y => ((zs y).flatMap us).foldl (fun E u => putE E (.tup (ks u)) (Rv u)) E := funext fun E => funext fun y => foldl_flat (fun E u => putE E (.tup (ks u)) (Rv u)) us (zs y) E
    rw [e]
    exact foldl_flat (fun E u => putE E (.tup (ks u)) (Rv u)) (fun y => (zs y).flatMap us) ys []
  have cnt0 : ∀ (l : List α), (accOf all (fun y (E : List (NestedKey × Pr)) => (zs y).foldl (fun E z => putAll ks Rv E (us z)) E) [] l).length ≤ (l.flatMap fun y => (zs y).flatMap us).length := fun l => by
    rw [accOf_all]
    have e : (fun (E : List (NestedKey × Pr)) (y : α) => (zs y).foldl (fun E z => putAll ks Rv E (us z)) E) = fun E y => ((zs y).flatMap us).foldl (fun E u => putE E (.tup (ks u)) (Rv u)) E := funext fun E => funext fun y => foldl_flat (fun E u => putE E (.tup (ks u)) (Rv u)) us (zs y) E
    rw [e, foldl_flat (fun E u => putE E (.tup (ks u)) (Rv u)) (fun y => (zs y).flatMap us) l []]
    exact Nat.le_trans (putAll_len ks Rv (l.flatMap fun y => (zs y).flatMap us) []) (by simp)
  exact jm_comp (p := iter.pos) (bd := fun acc env => nextOf c 1 i1 acc env) (t := all) (lim := fun y E => E.length + ((zs y).flatMap us).length ≤ sizeLine) (st := fun y E => (zs y).foldl (fun E z => putAll ks Rv E (us z)) E) own [] (accD w) ssE (fun i => arm_eval_DictComp ..) (fun _ _ => rfl) rfl (compC_dict (g := ⟨tg, iter, [], 0⟩) rfl rfl) (fun _ _ _ => by unfold turnOf nextOf; simp only [bind_assoc, pure_bind]; rfl) (fun i s Q h => hmk_dict (X := F i) s Q h) rfl
    (fun i H h hb => hu0_dict H h hb) (fun P D h => ok_dict h) (fun P H D o b ⟨ob, xs, h1, h2⟩ hd e => ⟨D, ob, xs, rfl, rfl, by rw [hd, h1], fin ▸ e ▸ h2⟩) hi ok hw hno hg (fun j hj => hjs j (List.mem_append_left _ hj)) hjl (fun _ _ => jts_nil) (fun y hy _ => by rw [e0 y]; exact b1 y hy) (fun pre y post e _ => by
      have h1 := cnt0 pre
      have h2 : (ys.flatMap fun y => (zs y).flatMap us).length = (pre.flatMap fun y => (zs y).flatMap us).length + (((zs y).flatMap us).length + (post.flatMap fun y => (zs y).flatMap us).length) := by rw [e, List.flatMap_append, List.flatMap_cons, List.length_append, List.length_append]
      omega) hN hc hs
end
/-! ### lists by two clauses -/
def accL : Acc (List Pr) := ⟨fun Rs P D o => ∃ vs, o = .lst vs ∧ PL P Rs vs, fun e ⟨vs, h1, h2⟩ => ⟨vs, h1, h2.up e⟩⟩
section
variable {ι : Type} {F : ι → Cx} {w : World} {ss ss1 : List Sl} {elt tg iter tg1 i1 : Expr} {scope : Scope} {pos : Pos} {α γ : Type} {ys : List α} {r : α → Pr} {js js1 : List Nat} {R : Pr}
theorem jb_list {vs : List Nat} (hx : ∀ i, (F i).xe = fun _ _ => False) (he : JE F elt ss R ss) : JB F vs (emL elt) accL ss (fun Rs => Rs ++ [R]) (fun Rs => Rs.length < sizeLine) := fun D σ P H o Rs S pd hd h0 hl Q kQ => by
  refine ⟨fun σ H Q => XE F elt σ H fun y H1 => ∃ acc, H1 D = some (.lst acc) ∧ acc.length < sizeLine ∧ Q (upd H1 D (.lst (acc ++ [y]))), fun i => pb_list (vs := vs) (D := D) (hx i) (xe (F := F) (e := elt) i), ?_⟩
  refine he _ _ _ _ _ _ _ S _ fun y P2 H2 S2 e2 r2 => ?_
  obtain ⟨vs', rfl, rs⟩ := accL.up e2 h0
  have hd2 : H2 D = some (.lst vs') := S2.gr.h _ _ hd
  have pd2 : P2 D = none := S2.gr.n D (by rw [hd]; exact Option.some_ne_none _) pd
  exact ⟨vs', hd2, by rw [rs.len]; exact hl, kQ P2 _ _ ((S2.gr.gd D).upd pd2 _) upd_same ⟨_, rfl, rs.app (.cons r2 .nil)⟩⟩
theorem hmk_list {X : Cx} (s : Shared) (Q : Value → Shared → Prop) (h : Q (.ref s.heap.objs.size) { s with heap := s.heap.push { cls := .type "list", data := .seq ([] : List Value).toArray } }) : wpAny (model X.prog X.w) X.A (newList []) Q X.xe s := wpAny_newObj_type h (by show 0 ≤ sizeLine; decide)
theorem foldl_snoc {γ β : Type} (g : γ → β) : ∀ (us : List γ) (b : List β), us.foldl (fun b u => b ++ [g u]) b = b ++ us.map g
  | [], b => by simp
  | u :: us, b => by rw [List.foldl_cons, foldl_snoc g us]; simp
/-- [elt for tg in iter if ..] -/
theorem jm_lc1 {ifs : List Expr} {f : α → List Sl → List Sl} (own : List (Str × Nat)) (ssE : List Sl) (t : α → Bool) (v : α → Pr) (hi : JI F tg iter ss (ys.map r) ss1) (ok : ∀ i, BlkOk (F i).N (F i).env.scope scope own) (hw : Wk ss1 ssE) (hno : noOw ssE = true) (hg : ∀ y, JG (FB F scope) tg js (r y) (f y)) (hjs : ∀ j ∈ js, j ∈ own.map (·.2)) (hjl : ∀ j ∈ js, j < ssE.length)
    (ht : ∀ y, y ∈ ys → JTs (FB F scope) ifs (f y (wipeS ssE (own.map (·.2)))) (t y) (f y (wipeS ssE (own.map (·.2))))) (he : ∀ y, y ∈ ys → t y = true → JE (FB F scope) elt (f y (wipeS ssE (own.map (·.2)))) (v y) (f y (wipeS ssE (own.map (·.2)))))
    (hz : ys.length ≤ sizeLine) (hN : ∀ i, (F i).N.Nodup) (hc : ∀ i, (F i).calm = true := by intro _; rfl) (hs : ∀ i x, foldedSetIterable iter (F i).env x = pure x := by intro _ _; rfl) : JM F (.ListComp elt [⟨tg, iter, ifs, 0⟩] scope pos) ss (oL ((ys.filter t).map v)) ss1 := by
  have fin : ∀ l : List α, accOf t (fun y (Rs : List Pr) => Rs ++ [v y]) [] l = (l.filter t).map v := fun l => by
    unfold accOf
    simpa using foldl_snoc v (l.filter t) []
  exact jm_comp (p := iter.pos) (bd := emL elt) (t := t) (lim := fun _ Rs => Rs.length < sizeLine) (st := fun y Rs => Rs ++ [v y]) own [] accL ssE (fun i => eval_ListComp ..) (fun _ _ => rfl) rfl (compC_list (g := ⟨tg, iter, ifs, 0⟩) rfl rfl) (fun _ _ _ => rfl) (fun i s Q h => hmk_list (X := F i) s Q h) rfl
    (u0 := fun _ => .lst []) (fun i H h hb => ⟨Nat.zero_le _, [], 0, .nil, Heap.get?_push_size _ rfl⟩) (fun P D h => ⟨[], rfl, .nil⟩) (fun P H D o b ⟨xs, h1, h2⟩ hd e => ⟨D, xs, rfl, rfl, by rw [hd, h1], fin ys ▸ e ▸ h2⟩) hi ok hw hno hg hjs hjl ht (fun y hy h => jb_list (fun _ => rfl) (he y hy h)) (fun pre y post e _ => by
      rw [fin pre, List.length_map]
      have h1 := List.length_filter_le t pre
      have h2 : ys.length = pre.length + (post.length + 1) := by rw [e, List.length_append, List.length_cons]
      omega) hN hc hs
/-- [elt for tg in iter for tg1 in i1], the value by the inner item -/
theorem jm_lc2 (own : List (Str × Nat)) (ssE : List Sl) (us : α → List γ) (r1 : γ → Pr) (v : γ → Pr) (s0 : α → List Sl) (s1 : α → γ → List Sl) (g0 : α → List Sl → List Sl) (g1 : α → γ → List Sl → List Sl) (hi : JI F tg iter ss (ys.map r) ss1) (ok : ∀ i, BlkOk (F i).N (F i).env.scope scope own) (hw : Wk ss1 ssE) (hno : noOw ssE = true)
    (hjs : ∀ j ∈ js ++ js1, j ∈ own.map (·.2)) (hjl : ∀ j ∈ js, j < ssE.length) (hg : ∀ y, JG (FB F scope) tg js (r y) (g0 y)) (e0 : ∀ y, g0 y (wipeS ssE (own.map (·.2))) = s0 y) (n0 : ∀ y, noOw (s0 y) = true) (l1 : ∀ y, ∀ j ∈ js1, j < (s0 y).length)
    (hi1 : ∀ y ∈ ys, JI (FB F scope) tg1 i1 (s0 y) ((us y).map r1) (s0 y)) (hg1 : ∀ y u, JG (FB F scope) tg1 js1 (r1 u) (g1 y u)) (e1 : ∀ y u, g1 y u (wipeS (s0 y) (own.map (·.2))) = s1 y u) (he : ∀ y ∈ ys, ∀ u ∈ us y, JE (FB F scope) elt (s1 y u) (v u) (s1 y u))
    (hz : (ys.flatMap us).length ≤ sizeLine) (hN : ∀ i, (F i).N.Nodup) (hc : ∀ i, (F i).calm = true := by intro _; rfl) (hs : ∀ i x, foldedSetIterable iter (F i).env x = pure x := by intro _ _; rfl) (hs1 : ∀ i x, foldedSetIterable i1 (FB F scope i).env x = pure x := by intro _ _; rfl) :
    JM F (.ListComp elt [⟨tg, iter, [], 0⟩, ⟨tg1, i1, [], 0⟩] scope pos) ss (oL ((ys.flatMap us).map v)) ss1 := by
  let c : Expr := .ListComp elt [⟨tg, iter, [], 0⟩, ⟨tg1, i1, [], 0⟩] scope pos
  let vs := own.map (·.2)
  have b1 : ∀ y ∈ ys, JB (FB F scope) vs (fun acc env => nextOf c 1 i1 acc env) accL (s0 y) (fun Rs => Rs ++ (us y).map v) (fun Rs => Rs.length + (us y).length ≤ sizeLine) := fun y hy => by
    have q := jb_next (vs := vs) (A := accL) (F := FB F scope) (c := c) (kk := 1) (ifs := []) (t := all) (ys := us y) (r := r1) (js := js1) (f := fun u => g1 y u) (ss := s0 y) (st := fun u Rs => Rs ++ [v u]) (lim := fun _ Rs => Rs.length < sizeLine) (bd := emL elt) (b0 := fun Rs => Rs.length + (us y).length ≤ sizeLine)
      (fun _ => rfl) (fun i => hc i.1) (compC_list (g := ⟨tg1, i1, [], 0⟩) rfl rfl) (fun _ _ _ => rfl) hs1 (hi1 y hy) (n0 y) (fun u => hg1 y u) (fun j hj => hjs j (List.mem_append_right _ hj)) (l1 y) (fun u _ => jts_nil) (fun u hu _ => by rw [show g1 y u (wipeS (s0 y) vs) = s1 y u from e1 y u]; exact jb_list (fun _ => rfl) (he y hy u hu))
      (fun Rs hE pre u post e _ => by
        rw [accOf_all, foldl_snoc v pre Rs, List.length_append, List.length_map]
        have h2 : (us y).length = pre.length + (post.length + 1) := by rw [e, List.length_append, List.length_cons]
        omega)
    have e : (fun Rs : List Pr => accOf all (fun u Rs => Rs ++ [v u]) Rs (us y)) = fun Rs => Rs ++ (us y).map v := funext fun Rs => by rw [accOf_all]; exact foldl_snoc v (us y) Rs
    rw [e] at q
    exact q
  have fin : ∀ l : List α, accOf all (fun y (Rs : List Pr) => Rs ++ (us y).map v) [] l = (l.flatMap us).map v := fun l => by
    rw [accOf_all]
    have key : ∀ (l : List α) (b : List Pr), l.foldl (fun b y => b ++ (us y).map v) b = b ++ (l.flatMap us).map v := by
      intro l
      induction l with
      | nil => intro b; simp
      | cons y l ih => intro b; rw [List.foldl_cons, ih]; simp
    simpa using key l []
  exact jm_comp (p := iter.pos) (bd := fun acc env => nextOf c 1 i1 acc env) (t := all) (lim := fun y Rs => Rs.length + (us y).length ≤ sizeLine) (st := fun y Rs => Rs ++ (us y).map v) own [] accL ssE (fun i => eval_ListComp ..) (fun _ _ => rfl) rfl (compC_list (g := ⟨tg, iter, [], 0⟩) rfl rfl) (fun _ _ _ => by unfold turnOf nextOf; simp only [bind_assoc, pure_bind]; rfl) (fun i s Q h => hmk_list (X := F i) s Q h) rfl
    (u0 := fun _ => .lst []) (fun i H h hb => ⟨Nat.zero_le _, [], 0, .nil, Heap.get?_push_size _ rfl⟩) (fun P D h => ⟨[], rfl, .nil⟩) (fun P H D o b ⟨xs, h1, h2⟩ hd e => ⟨D, xs, rfl, rfl, by rw [hd, h1], fin ys ▸ e ▸ h2⟩) hi ok hw hno hg (fun j hj => hjs j (List.mem_append_left _ hj)) hjl (fun _ _ => jts_nil) (fun y hy _ => by rw [e0 y]; exact b1 y hy) (fun pre y post e _ => by
      rw [fin pre, List.length_map]
      have h2 : (ys.flatMap us).length = (pre.flatMap us).length + ((us y).length + (post.flatMap us).length) := by rw [e, List.flatMap_append, List.flatMap_cons, List.length_append, List.length_append]
      omega) hN hc hs
/-- a fresh list is never changed any more -/
theorem JN.jeL {e : Expr} {Rs : List Pr} (h : JN F e ss (oL Rs) ss1) : JE F e ss (pL Rs) ss1 := fun xs P0 H0 ow σ P H S Q k =>
  h _ _ _ _ _ _ _ S.here _ fun v fp P2 H2 S2 e2 nf ⟨l, vs, h1, h2, h3, h4⟩ => by
    subst h1 h2
    obtain ⟨n, np, _⟩ := nf l (by simp)
    have no : l ∉ ow := fun z => (S.ows l z).2.1 n
    have S3 := S2.freeze n no no np h3
    have sm : Same P2 (upd P2 l (.lst vs)) := same_upd np
    exact k _ _ H2 (S.back S3 fun a ha => .inl ha) (e2.trans sm) ⟨l, vs, rfl, upd_same, h4.up sm⟩
end
end Ly
/-! enumerate of a tuple, zip of two lists; sets of pairs of numbers, sorted; lists joined and turned round. -/
namespace Ly
open PySem PySem.Spec PyProof.Rows L2
/-! ### enumerate(tuple) -/
def IteT (K : PySem.W.Frag) (a : Addr) : It :=
  ⟨fun i H => ∃ (xs : List V) (x : V), SqT K H a xs ∧ xs[i]? = some x, fun i H v H' => ∃ T x, v = .ref T ∧ H T = none ∧ H' = upd H T (.tup [.int (i : Nat), x]) ∧ ∀ xs, SqT K H a xs → xs[i]? = some x, fun i H => ∃ xs : List V, SqT K H a xs ∧ xs.length ≤ i⟩
theorem turn_enumT {P : Program} {w : World} {K : PySem.W.Frag} {elts : List Expr} {kk : Nat} {tpos : Pos} (a e it : Addr) :
    Turn P w K (.Tuple elts kk tpos) (IteT K a) [e, it] e (fun i h => (∃ old, IsEnum h e it ((i : Nat) : Int) old) ∧ h.IsTupleIter it a i ∧ e ≠ it ∧ e ≠ a ∧ a ≠ it) where
  mem := by simp
  obj := fun i h st b hb => by
    obtain ⟨⟨old, he⟩, ⟨o, ho, hc, hd⟩, _⟩ := st
    have e' : b = e ∨ b = it := by simpa using hb
    rcases e' with z | z
    · rw [z]; exact ⟨_, he, fun v q => nomatch q⟩
    · rw [z]; exact ⟨o, ho, fun v q => by rw [hd] at q; cases q⟩
  keep := fun i h h' st k => let ⟨⟨old, he⟩, hi, hne⟩ := st; ⟨⟨old, k e (by simp) _ he⟩, hi.at fun o q => k it (by simp) o q, hne⟩
  item := by
    intro X hP hw hK hc i pins s σ H E I hf st hg
    subst hP hw hK
    obtain ⟨⟨old, he⟩, hit, hne, hea, hai⟩ := st
    obtain ⟨xs, x, hq, hx⟩ := hg
    obtain ⟨its, rv, p, hz⟩ := I.tuple hq
    obtain ⟨u, hu, ru⟩ := rv.get hx
    have hel : e < s.heap.objs.size := Heap.lt_size he
    have hil : it < s.heap.objs.size := by obtain ⟨_, q, _⟩ := hit; exact Heap.lt_size q
    have hil2 : i < its.length := by
      have q : its[i]? = some u := by simpa using hu
      exact (List.getElem?_eq_some_iff.mp q).1
    have D := Draws.tuple (prog := X.prog) (w := X.w) (A := X.A.in1) (I.ok.hd hc) it a hai its.toArray
    refine wpAny_pyNext_enum_itemC D he ⟨hit, p⟩ (by simpa using hil2) hne (by simpa using ⟨hne, hea⟩) fun x' h' tk hx' ho hit' hT hsz hk => ?_
    have ex' : x' = u := by
      have q : its.toArray[i]? = some x' := hx'
      have q2 : its.toArray[i]? = some u := by simpa using hu
      rw [q] at q2
      exact Option.some.inj q2
    subst ex'
    refine ⟨_, rfl, wpAny_letOwnedTupleGo_enum (s := { s with heap := h', toks := tk + 1 }) ho fun h'' he' sb => ?_⟩
    have hT2 : h''.get? s.heap.objs.size = some { cls := .type "tuple", data := .seq #[.int i tk, x'] } := (sb.2 _ (Nat.ne_of_gt hel)).trans hT
    have new : ObjOk X.prog X.w (upd H s.heap.objs.size (.tup [.int (i : Nat), x])) h'' s.heap.objs.size (.tup [.int (i : Nat), x]) :=
      ⟨by show 2 ≤ sizeLine; decide, [.int i tk, x'], .cons ⟨_, rfl⟩ (.cons ru .nil), ⟨_, hT2, rfl, _, rfl⟩⟩
    have I1 : Inv X pins σ (upd H s.heap.objs.size (.tup [.int (i : Nat), x])) { s with heap := h'', toks := tk + 1 } :=
      I.turnedNew (ch := [e, it]) (fun b ob hb q => (sb.2 b (fun z => hb (by simp [z]))).trans (hk b ob (fun z => hb (by simp [z])) (fun z => hb (by simp [z])) q)) hf (Nat.le_refl _) new
    refine ⟨.ref s.heap.objs.size, _, I1, rfl, ⟨_, x, rfl, I.hok.fresh (Nat.le_refl _), rfl, fun ys hy => by rw [I.tuple_inj hy hq]; exact hx⟩, ⟨⟨x', ?_⟩, hit'.1.at fun o q => (sb.2 it (Ne.symm hne)).trans q, hne, hea, hai⟩, fun b hb => ?_⟩
    · have e1 : ((i + 1 : Nat) : Int) = (i : Int) + 1 := by omega
      rw [e1]; exact he'
    · have hb' : b < s.heap.objs.size := by
        have e' : b = e ∨ b = it := by simpa using hb
        rcases e' with z | z
        · rw [z]; exact hel
        · rw [z]; exact hil
      rw [upd_ne (Nat.ne_of_lt hb')]
      exact (hf b hb).1
  done := by
    intro X hP hw hK hc i pins s σ H E I hf st hg
    subst hP hw hK
    obtain ⟨⟨old, he⟩, hit, hne, hea, hai⟩ := st
    obtain ⟨xs, hq, hx⟩ := hg
    obtain ⟨its, rv, p, hz⟩ := I.tuple hq
    obtain ⟨f0, f1, f2, f3, f4, f5⟩ := hf it (by simp)
    have hl := rv.length
    have hT : s.TypeIs (.ref e) "enumerate" := ⟨_, he, rfl⟩
    unfold pyNext
    refine wpAny_bind (wpAny_attempt (wpAny_callSpecial?_slot (name := Str.ofString "__next__") hT F.slot_enumerate_next
      (wpAny_call_entry F.slot_enumerate_next hT F.entry_enumerate_next ?_ (F.args_enumerate_next_1 _))))
    show wpAny _ _ (field (.ref e) 2 >>= _) _ _ _
    refine wpAny_bind (wpAny_field he rfl (x := .ref it) rfl ?_)
    refine wpAny_bind (wpAny_nextOf_tuple_end (I.ok.hd hc) hit p (by simp; omega) fun h' x he' hx' => ?_)
    obtain ⟨o, ho, hcl⟩ := hx'
    refine wpAny_bind (wpAny_isInstance (T := "StopIteration") (b := true) ⟨o, ho, hcl⟩ isSubtype_stop ?_)
    exact wpAny_pure ⟨rfl, I.turned (t' := s.toks) (fun b o hb q => he' b o hb q) f0 f1 f3 f4 f5⟩
  self := fun A i s Q E st h => let ⟨⟨_, he⟩, _⟩ := st; wpAny_pyIter_enum he h
set_option maxHeartbeats 1000000 in
theorem meets_enumerate_newT {v : Value} {o : Obj} {H : Heap → Prop} (B : Begins v o H) :
    Meets (Builtin.«enumerate.__new__» ⟨[.type "enumerate", v], []⟩) (fun _ R s => H s.heap ∧
      R (.ok (.ret (.ref (s.heap.push o).objs.size))) { s with heap := (s.heap.push o).push { cls := .type "enumerate", data := .fields #[.none, .bool false, .ref s.heap.objs.size, rawInt 0, .none, .none] } }) :=
  .of_wp fun prog w A R s h => by
    obtain ⟨hp, g, d, tk, os⟩ := s; obtain ⟨h1, h⟩ := h
    have hsub := sub_enumerate
    have q1 : ∀ {A' : Around} {E : Value → Shared → Prop} {Q : Value → Shared → Prop}, Q (.ref hp.objs.size) ⟨hp.push o, g, d, tk, os⟩ → wpAny (model prog w) A' (pyIter v) Q E ⟨hp, g, d, tk, os⟩ :=
      fun q => B.iter prog w _ _ ⟨hp, g, d, tk, os⟩ _ h1 q
    wp_walk using q1
    refine wpAny_stack_any fun st => wpAny_pure ?_
    split
    · rename_i c _ _ _ _ _
      cases (c == Value.type "enumerate")
      · wp_walk using q1
        exact ⟨_, rfl, h⟩
      · wp_walk using q1
        exact ⟨_, rfl, h⟩
    · wp_walk using q1
      exact ⟨_, rfl, h⟩
theorem call_enumT {prog : Program} {w : World} {A : Around} {E : Value → Shared → Prop} {s : Shared} {v : Value} {o : Obj} {H : Heap → Prop} {Q : Value → Shared → Prop} (B : Begins v o H) (h1 : H s.heap)
    (h : ∀ h', IsEnum h' (s.heap.objs.size + 1) s.heap.objs.size 0 .none → h'.get? s.heap.objs.size = some o → (∀ b o, s.heap.get? b = some o → h'.get? b = some o) → Q (.ref (s.heap.objs.size + 1)) { s with heap := h' }) :
    wpAny (model prog w) A (call (.type "enumerate") [v]) Q E s := by
  refine callType_new F.called_enumerate (by decide) (F.typeCall_enumerate_1 _) (F.newCall_enumerate_1 _) (fun obj => F.args_object_init_2 obj _) F.entry_enumerate_new (meets_enumerate_newT B) ⟨h1, ?_⟩
  have hz : (s.heap.push o).objs.size = s.heap.objs.size + 1 := Heap.size_push ..
  show _ ∧ _
  rw [hz]
  have he : IsEnum ((s.heap.push o).push { cls := .type "enumerate", data := .fields #[.none, .bool false, .ref s.heap.objs.size, rawInt 0, .none, .none] }) (s.heap.objs.size + 1) s.heap.objs.size 0 .none := by
    have q := Heap.get?_push_size (s.heap.push o) (o := { cls := .type "enumerate", data := .fields #[.none, .bool false, .ref s.heap.objs.size, rawInt 0, .none, .none] }) rfl
    rw [hz] at q; exact q
  exact ⟨⟨_, he, rfl⟩, h _ he (Heap.get?_push_of_some _ (Heap.get?_push_size _ B.free)) fun b o x => Heap.get?_push_of_some _ (Heap.get?_push_of_some _ x)⟩
def iEnumT (K : PySem.W.Frag) (ta : TA) : TI := fun σ H R => ta σ H fun vs H1 => ∃ a xs, vs = [.ref a] ∧ SqT K H1 a xs ∧ R (IteT K a) H1
theorem pi_enumT {X : Cx} {e : Expr} {ta : TA} {p pos tpos : Pos} {elts : List Expr} {kk : Nat} (hg : Gl X "enumerate") (hm : X.mg "enumerate" = none) (ha : PA X [e] ta) (hs : starEach [e] X.env = [(false, eval e X.env)] := by rfl) :
    PI X (.Tuple elts kk tpos) (.Call (.Name "enumerate" p) [e] [] pos) (iEnumT X.K ta) := by
  refine ⟨fun pins s σ H R I h => ?_⟩
  refine Call_ (ld_blt I hg hm boot_enumerate (PyProof.Rows.callWith_type1 (thn (ha.run pos pins s σ H _ I h) fun us s1 ⟨vs, H1, I1, r1, q1⟩ => ?_) hs rfl))
  obtain ⟨a, xs, ex, hq, q⟩ := q1
  subst ex
  obtain ⟨u, rfl, ru⟩ := vals1 r1
  cases ru
  obtain ⟨its, rv, p', hz⟩ := I1.tuple hq
  have hlt : a < s1.heap.objs.size := p'.lt
  refine call_enumT (begins_tuple a its.toArray) p' fun h' he hit hk => wpAny_pyIter_enum he ?_
  have I2 : Inv X pins σ H1 { s1 with heap := h' } := I1.kept (t' := s1.toks) hk
  refine ⟨s1.heap.objs.size + 1, [s1.heap.objs.size + 1, s1.heap.objs.size], _, _, H1, rfl, I2, turn_enumT a (s1.heap.objs.size + 1) s1.heap.objs.size, ⟨⟨.none, he⟩, ⟨_, hit, rfl, rfl⟩, Nat.succ_ne_self _, Nat.ne_of_gt (Nat.lt_succ_of_lt hlt), Nat.ne_of_lt hlt⟩, fun b hb => ?_, q⟩
  have e' : b = s1.heap.objs.size + 1 ∨ b = s1.heap.objs.size := by simpa using hb
  have hle : s1.heap.objs.size ≤ b := by
    rcases e' with z | z
    · rw [z]; exact Nat.le_add_right _ _
    · rw [z]; exact Nat.le_refl _
  exact I1.fpOk hle (I1.hok.fresh hle)
/-- with indices -/
def idx {α : Type} (xs : List α) : List (Nat × α) := (List.range xs.length).zip xs
theorem idx_get {α : Type} {xs : List α} {i : Nat} {p : Nat × α} (h : (idx xs)[i]? = some p) : p.1 = i ∧ xs[i]? = some p.2 := by
  unfold idx at h
  rw [List.getElem?_zip_eq_some] at h
  obtain ⟨h1, h2⟩ := h
  have hi : i < xs.length := (List.getElem?_eq_some_iff.mp h2).1
  rw [List.getElem?_range hi] at h1
  exact ⟨(Option.some.inj h1).symm, h2⟩
theorem idx_len {α : Type} (xs : List α) : (idx xs).length = xs.length := by simp [idx]
section
variable {ι : Type} {F : ι → Cx} {K : PySem.W.Frag} {w : World} {ss ss1 ss2 : List Sl} {e e2 : Expr} {pos p tpos : Pos} {elts : List Expr} {kk : Nat} {α β : Type}
theorem ji_enumT {xs : List α} {r : α → Pr} (h : JE F e ss (pT K (xs.map r)) ss1) (hm : ∀ i, (F i).mg "enumerate" = none) (hg : ∀ i, Gl (F i) "enumerate" := by intro _; rfl) (hs : ∀ i, starEach [e] (F i).env = [(false, eval e (F i).env)] := by intro _; rfl) (hK : ∀ i, (F i).K = K := by intro _; rfl) :
    JI F (.Tuple elts kk tpos) (.Call (.Name "enumerate" p) [e] [] pos) ss ((idx xs).map fun y => pT K [pI y.1, r y.2]) ss1 := fun xs' P0 H0 ow σ P H S Rr k =>
  ⟨iEnumT K (tCons (XE F e) tNil), fun i => by have q := pi_enumT (elts := elts) (kk := kk) (tpos := tpos) (p := p) (pos := pos) (hg i) (hm i) (pa_cons (xe (F := F) (e := e) i) pa_nil (hs i)) (hs i); rw [hK i] at q; exact q, h _ _ _ _ _ _ _ S _ fun v P2 H2 S2 e2 rv => by
    obtain ⟨a, ys, rfl, h3, h4, h5⟩ := rv
    have hlen : ys.length = xs.length := by rw [h4.len, List.length_map]
    refine ⟨a, ys, rfl, h3.sq S2.ld, k _ P2 H2 S2 e2 ⟨fun i P' H' hi l s => ?_, fun i R P' H' x H'' hR l s y => ?_, fun P' H' l s => ⟨ys, (h3.up s).sq l, by rw [List.length_map, idx_len, hlen]; exact Nat.le_refl _⟩⟩⟩
    · have : i < ys.length := by rw [List.length_map, idx_len] at hi; omega
      exact ⟨ys, ys[i], (h3.up s).sq l, List.getElem?_eq_getElem this⟩
    · obtain ⟨T, v, rfl, hT, rfl, hv⟩ := y
      rw [List.getElem?_map] at hR
      cases hq : (idx xs)[i]? with
      | none => rw [hq] at hR; cases hR
      | some q =>
        rw [hq] at hR
        cases hR
        obtain ⟨q1, q2⟩ := idx_get hq
        have hR2 : (xs.map r)[i]? = some (r q.2) := by rw [List.getElem?_map, q2]; rfl
        obtain ⟨v', e1, r1⟩ := h4.at hR2
        have e3 := hv ys ((h3.up s).sq l)
        rw [e1] at e3
        cases e3
        have g := Gr.new l hT (.tup [.int (i : Nat), v])
        refine ⟨_, g, T, _, rfl, upd_same, .cons ?_ (.cons (Pr.up _ (s.trans g.p) r1) .nil), le_line (by simp)⟩
        rw [q1]
        rfl⟩
theorem ji_zip {xs : List α} {ys : List β} {r : α → Pr} {r2 : β → Pr} (h : JE F e ss (pL (xs.map r)) ss1) (h2 : JE F e2 ss1 (pL (ys.map r2)) ss2) (hm : ∀ i, (F i).mg "zip" = none) (hg : ∀ i, Gl (F i) "zip" := by intro _; rfl) (hs : ∀ i, starEach [e, e2] (F i).env = (false, eval e (F i).env) :: starEach [e2] (F i).env := by intro _; rfl)
    (hs2 : ∀ i, starEach [e2] (F i).env = (false, eval e2 (F i).env) :: starEach [] (F i).env := by intro _; rfl) (hpl : ∀ i, (backTo pos (starEach [e2] (F i).env)).any (·.1) = false := by intro _; rfl) (hK : ∀ i, (F i).K = K := by intro _; rfl) :
    JI F (.Tuple elts kk tpos) (.Call (.Name "zip" p) [e, e2] [] pos) ss ((xs.zip ys).map fun y => pT K [r y.1, r2 y.2]) ss2 := fun xs' P0 H0 ow σ P H S Rr k =>
  ⟨iZip K (tCons (XE F e) (tCons (XE F e2) tNil)), fun i => by have q := pi_zip (elts := elts) (kk := kk) (tpos := tpos) (p := p) (pos := pos) (hg i) (hm i) (pa_cons (xe (F := F) (e := e) i) (pa_cons (xe (F := F) (e := e2) i) pa_nil (hs2 i)) (hs i)) (hs i) (hpl i); rw [hK i] at q; exact q, h _ _ _ _ _ _ _ S _ fun v P2 H2 S2 e2' rv => h2 _ _ _ _ _ _ _ S2 _ fun v2 P3 H3 S3 e3 rv2 => by
    obtain ⟨a, us, rfl, h3, h4⟩ := (pL (xs.map r)).up e3 rv
    obtain ⟨b, vs, rfl, g3, g4⟩ := rv2
    have sqa : ∀ {P' H' : Hp}, Ld P' H' → Same P3 P' → SqL K H' a us := fun l s => .inl (l.rd (s _ _ h3))
    have sqb : ∀ {P' H' : Hp}, Ld P' H' → Same P3 P' → SqL K H' b vs := fun l s => .inl (l.rd (s _ _ g3))
    have la : us.length = xs.length := by rw [h4.len, List.length_map]
    have lb : vs.length = ys.length := by rw [g4.len, List.length_map]
    refine ⟨a, b, us, vs, rfl, sqa S3.ld (Same.refl _), sqb S3.ld (Same.refl _), k _ P3 H3 S3 (e2'.trans e3) ⟨fun i P' H' hi l s => ?_, fun i R P' H' x H'' hR l s y => ?_, fun P' H' l s => ⟨us, vs, sqa l s, sqb l s, ?_⟩⟩⟩
    · rw [List.length_map, List.length_zip] at hi
      have h1 : i < us.length := by omega
      have h2 : i < vs.length := by omega
      exact ⟨us, vs, us[i], vs[i], sqa l s, sqb l s, List.getElem?_eq_getElem h1, List.getElem?_eq_getElem h2⟩
    · obtain ⟨T, u, v, rfl, hT, rfl, hu, hv⟩ := y
      rw [List.getElem?_map] at hR
      cases hq : (xs.zip ys)[i]? with
      | none => rw [hq] at hR; cases hR
      | some q =>
        rw [hq] at hR
        cases hR
        obtain ⟨q1, q2⟩ := List.getElem?_zip_eq_some.mp hq
        have hR1 : (xs.map r)[i]? = some (r q.1) := by rw [List.getElem?_map, q1]; rfl
        have hR2 : (ys.map r2)[i]? = some (r2 q.2) := by rw [List.getElem?_map, q2]; rfl
        obtain ⟨u', e1, r1⟩ := h4.at hR1
        obtain ⟨v', e2, r2'⟩ := g4.at hR2
        have e3 := hu us (sqa l s)
        have e4 := hv vs (sqb l s)
        rw [e1] at e3
        rw [e2] at e4
        cases e3
        cases e4
        have g := Gr.new l hT (.tup [u, v])
        exact ⟨_, g, T, _, rfl, upd_same, .cons (Pr.up _ (s.trans g.p) r1) (.cons (Pr.up _ (s.trans g.p) r2') .nil), le_line (by simp)⟩
    · rw [List.length_map, List.length_zip]
      omega⟩
end
end Ly
/-! Sets of pairs of numbers, sorted; lists joined and turned round; the keys of a dict as a list. -/
namespace Ly
open PySem PySem.Spec PyProof.Rows L2
/-! ### pairs in their order -/
abbrev NP := Nat × Nat
def plt (p q : NP) : Bool := decide (p.1 < q.1) || (decide (p.1 = q.1) && decide (p.2 < q.2))
theorem plt_iff {p q : NP} : plt p q = true ↔ p.1 < q.1 ∨ (p.1 = q.1 ∧ p.2 < q.2) := by simp [plt]
theorem plt_trans {p q r : NP} (h : plt p q = true) (g : plt q r = true) : plt p r = true := by
  rw [plt_iff] at *
  omega
theorem plt_irr (p : NP) : plt p p = false := by simp [plt]
theorem plt_tri {p q : NP} (h : plt p q = false) (n : p ≠ q) : plt q p = true := by
  have h' : ¬ (p.1 < q.1 ∨ (p.1 = q.1 ∧ p.2 < q.2)) := fun z => by rw [plt_iff.mpr z] at h; cases h
  rw [plt_iff]
  have : ¬ (p.1 = q.1 ∧ p.2 = q.2) := fun z => n (Prod.ext z.1 z.2)
  omega
def insP (x : NP) : List NP → List NP
  | [] => [x]
  | y :: l => if plt x y then x :: y :: l else if x = y then y :: l else y :: insP x l
def cz (S : List NP) : List NP := S.foldr insP []
theorem mem_insP {x z : NP} : ∀ {l : List NP}, z ∈ insP x l ↔ z = x ∨ z ∈ l
  | [] => by simp [insP]
  | y :: l => by
    unfold insP
    split
    · simp
    · split
      · rename_i h
        subst h
        simp
      · simp only [List.mem_cons, mem_insP (l := l)]
        exact ⟨fun h => h.elim (fun z => .inr (.inl z)) (fun h => h.elim .inl fun z => .inr (.inr z)), fun h => h.elim (fun z => .inr (.inl z)) fun h => h.elim .inl fun z => .inr (.inr z)⟩
theorem mem_cz {z : NP} : ∀ {S : List NP}, z ∈ cz S ↔ z ∈ S
  | [] => by simp [cz]
  | x :: S => by
    show z ∈ insP x (cz S) ↔ _
    rw [mem_insP, mem_cz (S := S), List.mem_cons]
theorem pw_insP {x : NP} : ∀ {l : List NP}, l.Pairwise (fun p q => plt p q = true) → (insP x l).Pairwise (fun p q => plt p q = true)
  | [], _ => by simp [insP]
  | y :: l, h => by
    obtain ⟨h1, h2⟩ := List.pairwise_cons.mp h
    unfold insP
    split
    · rename_i c
      exact List.pairwise_cons.mpr ⟨fun z hz => (List.mem_cons.mp hz).elim (fun e => e ▸ c) fun m => plt_trans c (h1 z m), h⟩
    · rename_i c
      split
      · exact h
      · rename_i n
        exact List.pairwise_cons.mpr ⟨fun z hz => (mem_insP.mp hz).elim (fun e => e ▸ plt_tri (by simpa using c) n) fun m => h1 z m, pw_insP h2⟩
theorem pw_cz : ∀ S : List NP, (cz S).Pairwise (fun p q => plt p q = true)
  | [] => List.Pairwise.nil
  | x :: S => pw_insP (pw_cz S)
theorem pw_uniq : ∀ {l l' : List NP}, l.Pairwise (fun p q => plt p q = true) → l'.Pairwise (fun p q => plt p q = true) → (∀ x, x ∈ l ↔ x ∈ l') → l = l'
  | [], [], _, _, _ => rfl
  | [], y :: l', _, _, h => absurd ((h y).mpr (by simp)) (by simp)
  | x :: l, [], _, _, h => absurd ((h x).mp (by simp)) (by simp)
  | x :: l, y :: l', h1, h2, h => by
    obtain ⟨a1, a2⟩ := List.pairwise_cons.mp h1
    obtain ⟨b1, b2⟩ := List.pairwise_cons.mp h2
    have exy : x = y := by
      rcases List.mem_cons.mp ((h x).mp (by simp)) with e | m
      · exact e
      · rcases List.mem_cons.mp ((h y).mpr (by simp)) with e | m'
        · exact e.symm
        · have := plt_trans (b1 x m) (a1 y m')
          rw [plt_irr] at this
          cases this
    subst exy
    have : l = l' := pw_uniq a2 b2 fun z => by
      constructor
      · intro m
        rcases List.mem_cons.mp ((h z).mp (List.mem_cons_of_mem _ m)) with e | m'
        · subst e
          have := a1 z m
          rw [plt_irr] at this
          cases this
        · exact m'
      · intro m
        rcases List.mem_cons.mp ((h z).mpr (List.mem_cons_of_mem _ m)) with e | m'
        · subst e
          have := b1 z m
          rw [plt_irr] at this
          cases this
        · exact m'
    rw [this]
theorem cz_eq {S T : List NP} : cz S = cz T ↔ ∀ x, x ∈ S ↔ x ∈ T := by
  constructor
  · intro h x
    rw [← mem_cz (S := S), h, mem_cz]
  · intro h
    exact pw_uniq (pw_cz S) (pw_cz T) fun x => by rw [mem_cz, mem_cz, h]
theorem cz_len (S : List NP) : (cz S).length ≤ S.length := by
  have key : ∀ (x : NP) (l : List NP), (insP x l).length ≤ l.length + 1 := by
    intro x l
    induction l with
    | nil => simp [insP]
    | cons y l ih =>
      unfold insP
      split
      · simp
      · split
        · simp
        · simpa using ih
  induction S with
  | nil => simp [cz]
  | cons x S ih =>
    show (insP x (cz S)).length ≤ _
    have := key x (cz S)
    rw [List.length_cons]
    omega
/-! ### as values -/
def npI (p : NP) : List Int := [(p.1 : Int), (p.2 : Int)]
theorem npI_inj {p q : NP} (h : npI p = npI q) : p = q := by
  unfold npI at h
  simp only [List.cons.injEq] at h
  exact Prod.ext (by omega) (by omega)
def pk (p : NP) : NestedKey := .tup [.num p.1, .num p.2]
abbrev pPr (p : NP) : Pr := pNK (pk p)
theorem code2 (B : Int) (p : NP) : TS.code B (npI p) = (p.1 : Int) * B + p.2 := by
  show (p.1 : Int) * B ^ 1 + ((p.2 : Int) * B ^ 0 + 0) = _
  rw [Int.pow_succ, Int.pow_zero, Int.one_mul, Int.mul_one, Int.add_zero]
theorem code_plt {B : Int} {p q : NP} (h : TS.code B (npI p) ≤ TS.code B (npI q)) (n : p ≠ q) (hp : TS.Bd B (npI p)) (hq : TS.Bd B (npI q)) : plt p q = true := by
  rw [code2, code2] at h
  have p2 := hp p.2 (by simp [npI])
  have q2 := hq q.2 (by simp [npI])
  have q1 := hq q.1 (by simp [npI])
  rw [plt_iff]
  by_cases c : p.1 < q.1
  · exact .inl c
  · by_cases d : p.1 = q.1
    · refine .inr ⟨d, ?_⟩
      rw [d] at h
      have : p.2 ≠ q.2 := fun z => n (Prod.ext d z)
      omega
    · exfalso
      have h1 : (q.1 : Int) + 1 ≤ p.1 := by omega
      have h2 : ((q.1 : Int) + 1) * B ≤ (p.1 : Int) * B := Int.mul_le_mul_of_nonneg_right h1 (by omega)
      rw [Int.add_mul, Int.one_mul] at h2
      omega
/-- a set of pairs that nobody holds -/
abbrev nums (L : List (Addr × List Int)) : List (List Int) := L.map (·.2)
def oZ (Pg : Program) (w : World) (S : List NP) : Ow := ⟨fun P H v fp => ∃ (d : Addr) (L : List (Addr × List Int)), v = .ref d ∧ fp = [d] ∧ H d = some (SetTO Pg w d L) ∧ (∀ p ∈ L, P p.1 = some (.tup (p.2.map V.int))) ∧ (∀ x, x ∈ nums L ↔ x ∈ S.map npI),
  fun {P P' H H' v fp} e k ⟨d, L, h1, h2, h3, h4, h5⟩ => ⟨d, L, h1, h2, by subst h2; rw [k d (by simp)]; exact h3, fun p hp => e _ _ (h4 p hp), h5⟩⟩
def accZ (Pg : Program) (w : World) : Acc (List NP) := ⟨fun S P D o => ∃ L : List (Addr × List Int), o = SetTO Pg w D L ∧ (∀ p ∈ L, P p.1 = some (.tup (p.2.map V.int))) ∧ (∀ x, x ∈ nums L ↔ x ∈ S.map npI) ∧ L.length ≤ S.length, fun e ⟨L, h1, h2, h3, h4⟩ => ⟨L, h1, fun p hp => e _ _ (h2 p hp), h3, h4⟩⟩
abbrev pP2 (K : PySem.W.Frag) (p : NP) : Pr := pT K [pI p.1, pI p.2]
theorem pp2_at {K : PySem.W.Frag} {P : Hp} {p : NP} {v : V} (h : (pP2 K p).p P v) : ∃ a, v = .ref a ∧ P a = some (.tup ((npI p).map V.int)) := by
  obtain ⟨a, xs, rfl, h2, h3, _⟩ := h
  refine ⟨a, rfl, ?_⟩
  cases h3 with
  | cons r1 h3 => cases h3 with
    | cons r2 h3 =>
      cases h3
      rw [show _ = _ from r1, show _ = _ from r2] at h2
      exact h2
theorem ppr_of {P : Hp} {p : NP} {a : Addr} (h : P a = some (.tup ((npI p).map V.int))) : (pPr p).p P (.ref a) := .tup h (.cons (.num _) (.cons (.num _) .nil))
section
variable {ι : Type} {F : ι → Cx} {K : PySem.W.Frag} {Pg : Program} {w : World} {ss ss1 ss2 : List Sl} {e elt tg iter : Expr} {ifs : List Expr} {scope : Scope} {pos p : Pos}
theorem jb_set {vs : List Nat} {q : NP} (hx : ∀ i, (F i).xe = fun _ _ => False) (he : JE F elt ss (pP2 K q) ss) (hu : ∀ i, (F i).A.units + 16 < cLine) (hP : ∀ i, (F i).prog = Pg := by intro _; rfl) (hw : ∀ i, (F i).w = w := by intro _; rfl) :
    JB F vs (emS elt) (accZ Pg w) ss (fun S => S ++ [q]) (fun S => S.length + 1 < 64) := fun D σ P H o S Sx pd hd h0 hl Q kQ => by
  refine ⟨fun σ H Q => XE F elt σ H fun y H1 => ∃ a k L, y = .ref a ∧ H1 D = some (SetTO Pg w D L) ∧ (∀ p ∈ L, H1 p.1 = some (.tup (p.2.map V.int))) ∧ H1 a = some (.tup (k.map V.int)) ∧ L.length + 1 < 64 ∧ ∀ L', (k ∈ L.map (·.2) → L' = L) → (k ∉ L.map (·.2) → L'.Perm ((a, k) :: L)) → Q (upd H1 D (SetTO Pg w D L')), fun i => ?_, ?_⟩
  · have z := pb_set (vs := vs) (D := D) (hx i) (hu i) (xe (F := F) (e := elt) i)
    rw [hP i, hw i] at z
    exact z
  refine he _ _ _ _ _ _ _ Sx _ fun y P2 H2 S2 e2 r2 => ?_
  obtain ⟨L, rfl, h4, h5, h6⟩ := (accZ Pg w).up e2 h0
  obtain ⟨a, rfl, ha⟩ := pp2_at r2
  have hd2 : H2 D = some (SetTO Pg w D L) := S2.gr.h _ _ hd
  have pd2 : P2 D = none := S2.gr.n D (by rw [hd]; exact Option.some_ne_none _) pd
  refine ⟨a, npI q, L, rfl, hd2, fun p hp => S2.ld.tup _ _ (h4 p hp), S2.ld.tup _ _ ha, by omega, fun L' c1 c2 => kQ P2 _ _ ((S2.gr.gd D).upd pd2 _) upd_same ⟨L', rfl, ?_⟩⟩
  rcases Classical.em (npI q ∈ L.map (·.2)) with c | c
  · rw [c1 c]
    refine ⟨h4, fun x => ?_, by simp; omega⟩
    rw [List.map_append, List.mem_append, h5]
    exact ⟨.inl, fun z => z.elim id fun z => by
      have : x = npI q := by simpa using z
      rw [this, ← h5]
      exact c⟩
  · have pm := c2 c
    refine ⟨fun p hp => ?_, fun x => ?_, by rw [pm.length_eq]; simp; omega⟩
    · rcases List.mem_cons.mp (pm.mem_iff.mp hp) with z | z
      · rw [z]; exact ha
      · exact h4 p z
    · rw [(pm.map (·.2)).mem_iff, List.map_append, List.mem_append, ← h5]
      simp only [List.map_cons, List.mem_cons, List.map_nil, List.not_mem_nil, or_false]
      exact or_comm
theorem hmk_set {X : Cx} (s : Shared) (Q : Value → Shared → Prop) (h : Q (.ref s.heap.objs.size) { s with heap := s.heap.push { cls := .type "set", dict := none, data := .set #[] 0 (.fresh 0 0 (!X.w.params.followText "set-order")) } }) : wpAny (model X.prog X.w) X.A (newSet (.type "set")) Q X.xe s := PpSet.newSet_ok h
theorem hu0_set {Pg : Program} {w : World} (H : Hp) (h : Heap) : ObjOk Pg w H (h.push { cls := .type "set", dict := none, data := .set #[] 0 (.fresh 0 0 (!w.params.followText "set-order")) }) h.objs.size (SetTO Pg w h.objs.size []) := setTO_new (setTR_fresh (Heap.get?_push_size _ rfl)).t0
/-- {elt for tg in iter}, pairs of numbers -/
theorem jm_sc {α : Type} {ys : List α} {r : α → Pr} {js : List Nat} {f : α → List Sl → List Sl} (own : List (Str × Nat)) (ssE : List Sl) (v : α → NP) (hi : JI F tg iter ss (ys.map r) ss1) (ok : ∀ i, BlkOk (F i).N (F i).env.scope scope own) (hw : Wk ss1 ssE) (hno : noOw ssE = true) (hg : ∀ y, JG (FB F scope) tg js (r y) (f y)) (hjs : ∀ j ∈ js, j ∈ own.map (·.2)) (hjl : ∀ j ∈ js, j < ssE.length)
    (he : ∀ y, y ∈ ys → JE (FB F scope) elt (f y (wipeS ssE (own.map (·.2)))) (pP2 K (v y)) (f y (wipeS ssE (own.map (·.2))))) (hz : ys.length < 64) (hu : ∀ i, (F i).A.units + 16 < cLine) (hN : ∀ i, (F i).N.Nodup)
    (hP : ∀ i, (F i).prog = Pg := by intro _; rfl) (hww : ∀ i, (F i).w = w := by intro _; rfl) (hc : ∀ i, (F i).calm = true := by intro _; rfl) (hs : ∀ i x, foldedSetIterable iter (F i).env x = pure x := by intro _ _; rfl) :
    JM F (.SetComp elt [⟨tg, iter, [], 0⟩] scope pos) ss (oZ Pg w (ys.map v)) ss1 := by
  have fin : ∀ l : List α, accOf all (fun y (S : List NP) => S ++ [v y]) [] l = l.map v := fun l => by
    rw [accOf_all]
    simpa using foldl_snoc v l []
  exact jm_comp (p := iter.pos) (bd := emS elt) (t := all) (lim := fun _ S => S.length + 1 < 64) (st := fun y S => S ++ [v y]) own [] (accZ Pg w) ssE (fun i => PpSet.eval_SetComp ..) (fun _ _ => rfl) rfl (compC_set (g := ⟨tg, iter, [], 0⟩) rfl rfl) (fun _ _ _ => rfl) (o0 := { cls := .type "set", dict := none, data := .set #[] 0 (.fresh 0 0 (!w.params.followText "set-order")) }) (fun i s Q h => hmk_set (X := F i) s Q (by rw [hww i]; exact h)) rfl
    (u0 := fun D => SetTO Pg w D []) (fun i H h hb => by rw [hP i, hww i]; exact hu0_set H h) (fun P D h => ⟨[], rfl, fun p hp => absurd hp (by simp), fun x => by simp, Nat.le_refl _⟩) (fun P H D o b ⟨L, h1, h2, h3, h4⟩ hd e => ⟨D, L, rfl, rfl, by rw [hd, h1], h2, fun x => by rw [h3, e, fin]⟩) hi ok hw hno hg hjs hjl (fun _ _ => jts_nil)
    (fun y hy _ => jb_set (fun _ => rfl) (he y hy) (fun i => hu i.1) (fun i => hP i.1) (fun i => hww i.1)) (fun pre y post e _ => by
      rw [fin pre, List.length_map]
      have h2 : ys.length = pre.length + (post.length + 1) := by rw [e, List.length_append, List.length_cons]
      omega) hN hc hs
/-- set(xs) of a list of pairs -/
theorem jn_setL {S : List NP} (h : JE F e ss (pL (S.map (pP2 K))) ss1) (hz : S.length < 64) (hu : ∀ i, (F i).A.units + 64 < cLine) (hm : ∀ i, (F i).mg "set" = none) (hg : ∀ i, Gl (F i) "set" := by intro _; rfl) (he : ∀ i, starEach [e] (F i).env = (false, eval e (F i).env) :: starEach [] (F i).env := by intro _; rfl)
    (hpl : ∀ i, (backTo pos (starEach [] (F i).env)).any (·.1) = false := by intro _; rfl) (hP : ∀ i, (F i).prog = Pg := by intro _; rfl) (hww : ∀ i, (F i).w = w := by intro _; rfl) (hK : ∀ i, (F i).K = K := by intro _; rfl) (hc : ∀ i, (F i).calm = true := by intro _; rfl) :
    JN F (.Call (.Name "set" p) [e] [] pos) ss (oZ Pg w S) ss1 := fun xs P0 H0 ow σ P H Sx Q kQ =>
  ⟨tCB (rSetOfT K Pg w) (XA F [e]), fun i => by
    have z := pe_callTy (p := p) (pos := pos) (cr_setOfT (hc i) (hu i)) (hg i) (hm i) (by decide +kernel) (xa (F := F) (es := [e]) i) (by decide) (by decide) (he i) (hpl i)
    rw [hK i, hP i, hww i] at z
    exact z, ja_cons h ja_nil he _ _ _ _ _ _ _ Sx.here _ fun vs P2 H2 S2 e2 r2 => by
    obtain ⟨v, rfl, l, us, rfl, hl, rs⟩ := pl1 r2
    have key : ∀ {S : List NP} {us : List V}, PL P2 (S.map (pP2 K)) us → ∃ ks : List (Addr × List Int), us = ks.map (fun p => V.ref p.1) ∧ (∀ p ∈ ks, P2 p.1 = some (.tup (p.2.map V.int))) ∧ ks.map (·.2) = S.map npI := by
      intro S
      induction S with
      | nil => intro us h; cases h; exact ⟨[], rfl, fun p hp => absurd hp (by simp), rfl⟩
      | cons q S ih =>
        intro us h
        cases h with
        | cons r h =>
          obtain ⟨a, rfl, ha⟩ := pp2_at r
          obtain ⟨ks, rfl, k2, k3⟩ := ih h
          exact ⟨(a, npI q) :: ks, rfl, fun p hp => (List.mem_cons.mp hp).elim (fun z => by rw [z]; exact ha) (k2 p), by simp [k3]⟩
    obtain ⟨ks, rfl, k2, k3⟩ := key rs
    have klen : ks.length = S.length := by have := congrArg List.length k3; simpa using this
    refine ⟨l, ks, rfl, .inl (S2.ld.rd hl), fun p hp => .inl (.inl (S2.ld.tup _ _ (k2 p hp))), by omega, fun a L ha s1 s2 => ?_⟩
    have g := Gr.junk S2.ld ha (SetTO Pg w a L)
    refine kQ (.ref a) [a] P2 _ (Sx.back (S2.grow g) fun a ha => .inl ha) e2 (fun b hb => ?_) ⟨a, L, rfl, rfl, upd_same, fun p hp => k2 p (s1 p hp), fun x => ?_⟩
    · have : b = a := by simpa using hb
      subst this
      exact ⟨S2.gone ha, S2.ld.none ha, by rw [upd_same]; exact Option.some_ne_none _⟩
    · rw [← k3]
      exact ⟨fun hx => by
        obtain ⟨p, hp, rfl⟩ := List.mem_map.mp hx
        exact List.mem_map.mpr ⟨p, s1 p hp, rfl⟩, fun hx => by
        obtain ⟨p, hp, rfl⟩ := List.mem_map.mp hx
        exact s2 p hp⟩⟩
/-- sorted(s) of a fresh set of pairs below B -/
theorem jf_sortedZ {S : List NP} (B : Int) (h : JN F e ss (oZ Pg w S) ss1) (hB : ∀ q ∈ S, (q.1 : Int) < B ∧ (q.2 : Int) < B) (hm : ∀ i, (F i).mg "sorted" = none) (hg : ∀ i, Gl (F i) "sorted" := by intro _; rfl) (he : ∀ i, starEach [e] (F i).env = (false, eval e (F i).env) :: starEach [] (F i).env := by intro _; rfl)
    (hpl : ∀ i, (backTo pos (starEach [] (F i).env)).any (·.1) = false := by intro _; rfl) (hP : ∀ i, (F i).prog = Pg := by intro _; rfl) (hww : ∀ i, (F i).w = w := by intro _; rfl) (hK : ∀ i, (F i).K = K := by intro _; rfl) (hc : ∀ i, (F i).calm = true := by intro _; rfl) :
    JF F (.Call (.Name "sorted" p) [e] [] pos) ss ((cz S).map pPr) ss1 := fun xs P0 H0 ow σ P H Sx Q kQ =>
  ⟨tCB (rSortedT K Pg w) (tCons (XE F e) tNil), fun i => by
    have z := pe_callB (p := p) (pos := pos) (cr_sortedT (hc i)) (hg i) (hm i) (by decide +kernel) (pa_cons (xe (F := F) (e := e) i) pa_nil (he i)) (by decide) (by decide) (he i) (hpl i)
    rw [hK i, hP i, hww i] at z
    exact z, h _ _ _ _ _ _ _ Sx.here _ fun v fp P2 H2 S2 e2 nf ⟨d, L, h1, h2, h3, h4, h5⟩ => by
    subst h1 h2
    have np : ∀ x ∈ L, ∃ q ∈ S, x.2 = npI q := fun x hx => by
      obtain ⟨q, hq, e⟩ := List.mem_map.mp ((h5 x.2).mp (List.mem_map.mpr ⟨x, hx, rfl⟩))
      exact ⟨q, hq, e.symm⟩
    have bd : ∀ q ∈ S, TS.Bd B (npI q) := fun q hq m hm => by
      have hb := hB q hq
      simp only [npI, List.mem_cons, List.mem_nil_iff, or_false] at hm
      rcases hm with rfl | rfl <;> omega
    refine ⟨d, L, 2, B, rfl, h3, fun x hx => .inl (.inl (S2.ld.tup _ _ (h4 x hx))), by decide, fun x hx => ?_, fun L' l pm nd few pw hl => ?_⟩
    · obtain ⟨q, hq, e⟩ := np x hx
      rw [e]
      exact ⟨rfl, bd q hq⟩
    · -- the list is the canonical one
      have mem' : ∀ x ∈ L', ∃ q ∈ S, x.2 = npI q := fun x hx => np x (pm.mem_iff.mp hx)
      obtain ⟨qs, hqs, hsub⟩ : ∃ qs : List NP, L'.map (·.2) = qs.map npI ∧ ∀ q ∈ qs, q ∈ S := by
        have key : ∀ L' : List (Addr × List Int), (∀ x ∈ L', ∃ q ∈ S, x.2 = npI q) → ∃ qs : List NP, L'.map (·.2) = qs.map npI ∧ ∀ q ∈ qs, q ∈ S := by
          intro L'
          induction L' with
          | nil => exact fun _ => ⟨[], rfl, fun q hq => absurd hq (by simp)⟩
          | cons x L' ih =>
            intro hx
            obtain ⟨q, hq, e⟩ := hx x (by simp)
            obtain ⟨qs, h1, h2⟩ := ih fun y hy => hx y (List.mem_cons_of_mem _ hy)
            exact ⟨q :: qs, by simp [e, h1], fun z hz => (List.mem_cons.mp hz).elim (fun e => e ▸ hq) (h2 z)⟩
        exact key L' mem'
      have pw1 : (L'.map (·.2)).Pairwise (fun x y => TS.code B x ≤ TS.code B y) := List.pairwise_map.mpr pw
      rw [hqs] at pw1 nd
      have pw2 : qs.Pairwise (fun x y => TS.code B (npI x) ≤ TS.code B (npI y)) := by rw [List.pairwise_map] at pw1; exact pw1
      have nd2 : qs.Pairwise (fun x y => x ≠ y) := (List.pairwise_map.mp nd).imp fun h z => h (by rw [z])
      have pw3 : qs.Pairwise (fun x y => plt x y = true) := ((pw2.and nd2).imp_of_mem fun hx hy h => code_plt h.1 h.2 (bd _ (hsub _ hx)) (bd _ (hsub _ hy)))
      have eq : qs = cz S := pw_uniq pw3 (pw_cz S) fun x => by
        rw [mem_cz]
        refine ⟨hsub x, fun hx => ?_⟩
        have : npI x ∈ L'.map (·.2) := (pm.map (·.2)).mem_iff.mpr ((h5 _).mpr (List.mem_map.mpr ⟨x, hx, rfl⟩))
        rw [hqs] at this
        obtain ⟨y, hy, e⟩ := List.mem_map.mp this
        exact npI_inj e ▸ hy
      subst eq
      have rs : PL P2 ((cz S).map pPr) (L'.map fun q => V.ref q.1) := by
        have h4' : ∀ x ∈ L', P2 x.1 = some (.tup (x.2.map V.int)) := fun x hx => h4 x (pm.mem_iff.mp hx)
        have key : ∀ (L' : List (Addr × List Int)) (qs : List NP), L'.map (·.2) = qs.map npI → (∀ x ∈ L', P2 x.1 = some (.tup (x.2.map V.int))) → PL P2 (qs.map pPr) (L'.map fun q => V.ref q.1) := by
          intro L'
          induction L' with
          | nil =>
            intro qs h _
            have : qs = [] := by simpa using h.symm
            subst this
            exact .nil
          | cons x L' ih =>
            intro qs h hx
            cases qs with
            | nil => simp at h
            | cons q qs =>
              simp only [List.map_cons, List.cons.injEq] at h
              refine .cons (ppr_of ?_) (ih qs h.2 fun y hy => hx y (List.mem_cons_of_mem _ hy))
              rw [← h.1]
              exact hx x (by simp)
        exact key L' (cz S) hqs h4'
      have g := Gr.junk S2.ld hl (.lst (L'.map fun q => V.ref q.1))
      exact kQ l _ P2 _ (Sx.back (S2.grow g) fun a ha => .inl ha) e2 (S2.gone hl) (S2.ld.none hl) upd_same rs⟩
theorem pT_NK {K : PySem.W.Frag} {ks : List NestedKey} {P : Hp} {v : V} (h : (pT K (ks.map pNK)).p P v) : (pNK (.tup ks)).p P v := by
  obtain ⟨a, xs, rfl, h2, h3, h4⟩ := h
  refine .tup h2 ?_
  clear h2 h4
  induction ks generalizing xs with
  | nil => cases h3; exact .nil
  | cons k ks ih => cases h3 with
    | cons r h3 => exact .cons r (ih _ h3)
end
end Ly
/-! Places enough, and numbers for lines: the plain part. -/
namespace M74
open Ly (idx NP cz cz_eq mem_cz)
/-- the left and the right line of the place (i, j) -/
def lf (bs : Ln) (i j : Nat) : Ln := bs.take i ++ (match bs[i]? with | some b => bl b j | none => [])
def rg (bs : Ln) (i j : Nat) : Ln := (match bs[i]? with | some b => br b j | none => []) ++ bs.drop (i + 1)
def hv (most : Nat) (bs : Ln) (i j : Nat) : Ln × Ln := (form most (lf bs i j), form most (rg bs i j))
theorem lf_at {bs : Ln} {i : Nat} {b : Blk} (h : bs[i]? = some b) (j : Nat) : lf bs i j = bs.take i ++ bl b j := by unfold lf; rw [h]
theorem rg_at {bs : Ln} {i : Nat} {b : Blk} (h : bs[i]? = some b) (j : Nat) : rg bs i j = br b j ++ bs.drop (i + 1) := by unfold rg; rw [h]
theorem split_at {bs : Ln} {i : Nat} {b : Blk} (h : bs[i]? = some b) : bs = bs.take i ++ b :: bs.drop (i + 1) := by
  obtain ⟨hi, e⟩ := List.getElem?_eq_some_iff.mp h
  rw [← e, ← List.drop_eq_getElem_cons hi, List.take_append_drop]
theorem cut_iff {bs l s : Ln} : Cut bs l s ↔ ∃ i b j, bs[i]? = some b ∧ okJ b j ∧ l = lf bs i j ∧ s = rg bs i j := by
  constructor
  · rintro ⟨x, b, y, j, rfl, ok, rfl, rfl⟩
    have h : (x ++ b :: y)[x.length]? = some b := by rw [List.getElem?_append_right (Nat.le_refl _)]; simp
    refine ⟨x.length, b, j, h, ok, ?_, ?_⟩
    · rw [lf_at h, List.take_left']
      rfl
    · rw [rg_at h]
      congr 1
      rw [List.drop_append]
      simp
  · rintro ⟨i, b, j, h, ok, rfl, rfl⟩
    exact ⟨bs.take i, b, bs.drop (i + 1), j, split_at h, ok, lf_at h j, rg_at h j⟩
theorem pos_bl {b : Blk} {j : Nat} : Pos (bl b j) := by
  cases b with
  | n k => exact Pos.fin j
  | up => exact Pos.fin j
  | dn => intro k m; simp [bl] at m
theorem pos_br {b : Blk} {j : Nat} : Pos (br b j) := by
  cases b with
  | n k => exact Pos.fin _
  | up => intro k m; simp [br] at m
  | dn => exact Pos.fin j
theorem pos_lf {bs : Ln} (h : Pos bs) (i j : Nat) : Pos (lf bs i j) := by
  unfold lf
  refine (h.take i).app ?_
  cases bs[i]? with
  | none => exact Pos.nil
  | some b => exact pos_bl
theorem pos_rg {bs : Ln} (h : Pos bs) (i j : Nat) : Pos (rg bs i j) := by
  unfold rg
  refine Pos.app ?_ (h.drop _)
  cases bs[i]? with
  | none => exact Pos.nil
  | some b => exact pos_br
/-! ### enough places -/
def spotsOf (most : Nat) : Blk → List Nat
  | .n k => (List.range k).filter fun j => decide (j ≤ most) || decide (k - j ≤ most)
  | .up => List.range (most + 1)
  | .dn => List.range (most + 1)
def plc (most : Nat) (bs : Ln) : List NP := (idx bs).flatMap fun y => (spotsOf most y.2).map fun j => (y.1, j)
theorem mem_idx {α : Type} {xs : List α} {p : Nat × α} : p ∈ idx xs ↔ xs[p.1]? = some p.2 := by
  constructor
  · intro h
    obtain ⟨i, hi⟩ := List.mem_iff_getElem?.mp h
    obtain ⟨e, q⟩ := Ly.idx_get hi
    rw [e]; exact q
  · intro h
    refine List.mem_iff_getElem?.mpr ⟨p.1, ?_⟩
    have hi : p.1 < xs.length := (List.getElem?_eq_some_iff.mp h).1
    unfold idx
    rw [List.getElem?_zip_eq_some]
    exact ⟨List.getElem?_range hi, h⟩
theorem mem_plc {most : Nat} {bs : Ln} {p : NP} : p ∈ plc most bs ↔ ∃ b, bs[p.1]? = some b ∧ p.2 ∈ spotsOf most b := by
  unfold plc
  rw [List.mem_flatMap]
  constructor
  · rintro ⟨y, hy, hp⟩
    obtain ⟨j, hj, rfl⟩ := List.mem_map.mp hp
    exact ⟨y.2, mem_idx.mp hy, hj⟩
  · rintro ⟨b, hb, hj⟩
    exact ⟨(p.1, b), mem_idx.mpr hb, List.mem_map.mpr ⟨p.2, hj, rfl⟩⟩
theorem spots_ok {most : Nat} {b : Blk} {j : Nat} (h : j ∈ spotsOf most b) : okJ b j := by
  cases b with
  | n k => exact List.mem_range.mp (List.mem_filter.mp h).1
  | up => trivial
  | dn => trivial
theorem spots_enough (r : Nat) {b : Blk} {j : Nat} (h : okJ b j) : ∃ j' ∈ spotsOf (2 ^ r - 1) b, E r (bl b j) (bl b j') ∧ E r (br b j) (br b j') := by
  have hp := pow_pos r
  cases b with
  | n k =>
    have h : j < k := h
    by_cases c : j ≤ 2 ^ r - 1 ∨ k - j ≤ 2 ^ r - 1
    · exact ⟨j, List.mem_filter.mpr ⟨List.mem_range.mpr h, by simpa using c⟩, E.refl _ _, E.refl _ _⟩
    · refine ⟨2 ^ r - 1, List.mem_filter.mpr ⟨List.mem_range.mpr (by omega), by simp⟩, E_big r _ _ (by omega) (Nat.le_refl _), E_big r _ _ (by omega) (by omega)⟩
  | up =>
    by_cases c : j ≤ 2 ^ r - 1
    · exact ⟨j, List.mem_range.mpr (by omega), E.refl _ _, E.refl _ _⟩
    · exact ⟨2 ^ r - 1, List.mem_range.mpr (by omega), E_big r _ _ (by omega) (Nat.le_refl _), E.refl _ _⟩
  | dn =>
    by_cases c : j ≤ 2 ^ r - 1
    · exact ⟨j, List.mem_range.mpr (by omega), E.refl _ _, E.refl _ _⟩
    · exact ⟨2 ^ r - 1, List.mem_range.mpr (by omega), E.refl _ _, E_big r _ _ (by omega) (Nat.le_refl _)⟩
/-- two places' lines are alike, both left and right -/
def E2 (r : Nat) (f : Ln) (p : NP) (g : Ln) (q : NP) : Prop := E r (lf f p.1 p.2) (lf g q.1 q.2) ∧ E r (rg f p.1 p.2) (rg g q.1 q.2)
theorem E2.symm {r : Nat} {f g : Ln} {p q : NP} (h : E2 r f p g q) : E2 r g q f p := ⟨h.1.symm, h.2.symm⟩
theorem E2.trans {r : Nat} {f g k : Ln} {p q s : NP} (h : E2 r f p g q) (h' : E2 r g q k s) : E2 r f p k s := ⟨h.1.trans h'.1, h.2.trans h'.2⟩
/-- (i, j) is a place of f -/
def Plc (f : Ln) (p : NP) : Prop := ∃ b, f[p.1]? = some b ∧ okJ b p.2
theorem plc_plc {most : Nat} {f : Ln} {p : NP} (h : p ∈ plc most f) : Plc f p := let ⟨b, e, hj⟩ := mem_plc.mp h; ⟨b, e, spots_ok hj⟩
theorem plc_enough (r : Nat) {f : Ln} {p : NP} (h : Plc f p) : ∃ q ∈ plc (2 ^ r - 1) f, q.1 = p.1 ∧ E2 r f p f q := by
  obtain ⟨b, e, ok⟩ := h
  obtain ⟨j', hj, e1, e2⟩ := spots_enough r ok
  refine ⟨(p.1, j'), mem_plc.mpr ⟨b, e, hj⟩, rfl, ?_⟩
  show E r _ (lf f p.1 j') ∧ E r _ (rg f p.1 j')
  rw [lf_at e, lf_at e, rg_at e, rg_at e]
  exact ⟨(E.refl _ _).append e1, e2.append (E.refl _ _)⟩
theorem E_plc {r : Nat} {f g : Ln} : E (r + 1) f g ↔ (∀ p, Plc f p → ∃ q, Plc g q ∧ E2 r f p g q) ∧ ∀ q, Plc g q → ∃ p, Plc f p ∧ E2 r f p g q := by
  constructor
  · intro h
    refine ⟨fun p ⟨b, e, ok⟩ => ?_, fun q ⟨b, e, ok⟩ => ?_⟩
    · obtain ⟨l2, s2, c, e1, e2⟩ := h.1 _ _ (cut_iff.mpr ⟨p.1, b, p.2, e, ok, rfl, rfl⟩)
      obtain ⟨i, b', j, e', ok', rfl, rfl⟩ := cut_iff.mp c
      exact ⟨(i, j), ⟨b', e', ok'⟩, e1, e2⟩
    · obtain ⟨l2, s2, c, e1, e2⟩ := h.2 _ _ (cut_iff.mpr ⟨q.1, b, q.2, e, ok, rfl, rfl⟩)
      obtain ⟨i, b', j, e', ok', rfl, rfl⟩ := cut_iff.mp c
      exact ⟨(i, j), ⟨b', e', ok'⟩, e1, e2⟩
  · intro h
    refine ⟨fun l s c => ?_, fun l s c => ?_⟩
    · obtain ⟨i, b, j, e, ok, rfl, rfl⟩ := cut_iff.mp c
      obtain ⟨q, ⟨b', e', ok'⟩, e1, e2⟩ := h.1 (i, j) ⟨b, e, ok⟩
      exact ⟨_, _, cut_iff.mpr ⟨q.1, b', q.2, e', ok', rfl, rfl⟩, e1, e2⟩
    · obtain ⟨i, b, j, e, ok, rfl, rfl⟩ := cut_iff.mp c
      obtain ⟨q, ⟨b', e', ok'⟩, e1, e2⟩ := h.2 (i, j) ⟨b, e, ok⟩
      exact ⟨_, _, cut_iff.mpr ⟨q.1, b', q.2, e', ok', rfl, rfl⟩, e1, e2⟩
theorem E_list {r : Nat} {f g : Ln} : E (r + 1) f g ↔ (∀ p ∈ plc (2 ^ r - 1) f, ∃ q ∈ plc (2 ^ r - 1) g, E2 r f p g q) ∧ ∀ q ∈ plc (2 ^ r - 1) g, ∃ p ∈ plc (2 ^ r - 1) f, E2 r f p g q := by
  rw [E_plc]
  constructor
  · intro h
    refine ⟨fun p hp => ?_, fun q hq => ?_⟩
    · obtain ⟨q, hq, e⟩ := h.1 p (plc_plc hp)
      obtain ⟨q', hq', _, e'⟩ := plc_enough r hq
      exact ⟨q', hq', e.trans e'⟩
    · obtain ⟨p, hp, e⟩ := h.2 q (plc_plc hq)
      obtain ⟨p', hp', _, e'⟩ := plc_enough r hp
      exact ⟨p', hp', e'.symm.trans e⟩
  · intro h
    refine ⟨fun p hp => ?_, fun q hq => ?_⟩
    · obtain ⟨p', hp', _, e⟩ := plc_enough r hp
      obtain ⟨q, hq, e'⟩ := h.1 p' hp'
      exact ⟨q, plc_plc hq, e.trans e'⟩
    · obtain ⟨q', hq', _, e⟩ := plc_enough r hq
      obtain ⟨p, hp, e'⟩ := h.2 q' hq'
      exact ⟨p, plc_plc hp, e'.trans e.symm⟩
/-! ### numbers -/
/-- without repeats, the first kept -/
def addD {α : Type} [DecidableEq α] (acc : List α) (x : α) : List α := if x ∈ acc then acc else acc ++ [x]
def ded {α : Type} [DecidableEq α] (l : List α) : List α := l.foldl addD []
section
variable {α : Type} [DecidableEq α]
theorem ded_go : ∀ (l acc : List α), (∀ x, x ∈ l.foldl addD acc ↔ x ∈ acc ∨ x ∈ l)
  | [], acc, x => by simp
  | y :: l, acc, x => by
    rw [List.foldl_cons, ded_go l]
    unfold addD
    by_cases c : y ∈ acc
    · rw [if_pos c, List.mem_cons]
      exact ⟨fun h => h.elim .inl fun h => .inr (.inr h), fun h => h.elim .inl fun h => h.elim (fun e => .inl (e ▸ c)) .inr⟩
    · rw [if_neg c, List.mem_append, List.mem_singleton, List.mem_cons]
      exact or_assoc
theorem mem_ded {l : List α} {x : α} : x ∈ ded l ↔ x ∈ l := by unfold ded; rw [ded_go]; simp
theorem ded_len (l : List α) : (ded l).length ≤ l.length := by
  have key : ∀ (l acc : List α), (l.foldl addD acc).length ≤ acc.length + l.length := by
    intro l
    induction l with
    | nil => intro acc; simp
    | cons y l ih =>
      intro acc
      rw [List.foldl_cons]
      have := ih (addD acc y)
      have h2 : (addD acc y).length ≤ acc.length + 1 := by unfold addD; split <;> simp
      rw [List.length_cons]
      omega
  have := key l []
  simpa [ded] using this
def ixOf (l : List α) (x : α) : Nat := l.idxOf x
theorem idx_inj {l : List α} {x y : α} (hx : x ∈ l) (h : ixOf l x = ixOf l y) : x = y := by
  unfold ixOf at h
  have h1 := List.idxOf_lt_length_iff.mpr hx
  have e1 : l[l.idxOf x] = x := List.getElem_idxOf h1
  have h2 : l.idxOf y < l.length := h ▸ h1
  have e2 : l[l.idxOf y] = y := List.getElem_idxOf h2
  rw [← e1, ← e2]
  congr 1
end
/-- the lines of the next level below -/
def lev (l : Nat) (fs : List Ln) : List Ln := ded (fs.flatMap fun f => (plc (2 ^ l - 1) f).flatMap fun p => [(hv (2 ^ l - 1) f p.1 p.2).1, (hv (2 ^ l - 1) f p.1 p.2).2])
def keyF (m : Nat) (g : Ln → Nat) (f : Ln) : List NP := cz ((plc m f).map fun p => (g (hv m f p.1 p.2).1, g (hv m f p.1 p.2).2))
def numF : Nat → List Ln → Ln → Nat
  | 0, _ => fun _ => 0
  | l + 1, fs => fun f => ixOf (ded (fs.map (keyF (2 ^ l - 1) (numF l (lev l fs))))) (keyF (2 ^ l - 1) (numF l (lev l fs)) f)
theorem mem_lev {l : Nat} {fs : List Ln} {f : Ln} {p : NP} (hf : f ∈ fs) (hp : p ∈ plc (2 ^ l - 1) f) : (hv (2 ^ l - 1) f p.1 p.2).1 ∈ lev l fs ∧ (hv (2 ^ l - 1) f p.1 p.2).2 ∈ lev l fs := by
  unfold lev
  constructor <;> exact mem_ded.mpr (List.mem_flatMap.mpr ⟨f, hf, List.mem_flatMap.mpr ⟨p, hp, by simp⟩⟩)
theorem lev_of {l : Nat} {fs : List Ln} {g : Ln} (h : g ∈ lev l fs) : ∃ f ∈ fs, ∃ p ∈ plc (2 ^ l - 1) f, g = (hv (2 ^ l - 1) f p.1 p.2).1 ∨ g = (hv (2 ^ l - 1) f p.1 p.2).2 := by
  unfold lev at h
  obtain ⟨f, hf, h⟩ := List.mem_flatMap.mp (mem_ded.mp h)
  obtain ⟨p, hp, h⟩ := List.mem_flatMap.mp h
  exact ⟨f, hf, p, hp, by simpa using h⟩
theorem pos_hv {l : Nat} {f : Ln} (h : Pos f) (i j : Nat) : Pos (hv (2 ^ l - 1) f i j).1 ∧ Pos (hv (2 ^ l - 1) f i j).2 := ⟨pos_form l (pos_lf h i j), pos_form l (pos_rg h i j)⟩
theorem pos_lev {l : Nat} {fs : List Ln} (h : ∀ f ∈ fs, Pos f) : ∀ g ∈ lev l fs, Pos g := by
  intro g hg
  obtain ⟨f, hf, p, hp, e⟩ := lev_of hg
  have q := pos_hv (l := l) (h f hf) p.1 p.2
  rcases e with e | e
  · rw [e]; exact q.1
  · rw [e]; exact q.2
/-- equal numbers just for what is alike -/
theorem numF_ok : ∀ (l : Nat) (fs : List Ln), (∀ f ∈ fs, Pos f) → ∀ f ∈ fs, ∀ g ∈ fs, numF l fs f = numF l fs g ↔ E l f g
  | 0, _, _, _, _, _, _ => ⟨fun _ => trivial, fun _ => rfl⟩
  | l + 1, fs, hp, f, hf, g, hg => by
    have ih := numF_ok l (lev l fs) (pos_lev hp)
    -- the pairs of numbers agree just where the lines are alike
    have pr : ∀ (f g : Ln), f ∈ fs → g ∈ fs → ∀ p ∈ plc (2 ^ l - 1) f, ∀ q ∈ plc (2 ^ l - 1) g,
        ((numF l (lev l fs) (hv (2 ^ l - 1) f p.1 p.2).1, numF l (lev l fs) (hv (2 ^ l - 1) f p.1 p.2).2) = (numF l (lev l fs) (hv (2 ^ l - 1) g q.1 q.2).1, numF l (lev l fs) (hv (2 ^ l - 1) g q.1 q.2).2) ↔ E2 l f p g q) := by
      intro f g hf hg p hpp q hq
      have a := mem_lev hf hpp
      have b := mem_lev hg hq
      have ef1 := E_form l (pos_lf (hp f hf) p.1 p.2)
      have ef2 := E_form l (pos_rg (hp f hf) p.1 p.2)
      have eg1 := E_form l (pos_lf (hp g hg) q.1 q.2)
      have eg2 := E_form l (pos_rg (hp g hg) q.1 q.2)
      rw [Prod.mk.injEq, ih _ a.1 _ b.1, ih _ a.2 _ b.2]
      exact ⟨fun h => ⟨ef1.trans (h.1.trans eg1.symm), ef2.trans (h.2.trans eg2.symm)⟩, fun h => ⟨ef1.symm.trans (h.1.trans eg1), ef2.symm.trans (h.2.trans eg2)⟩⟩
    have hkey : keyF (2 ^ l - 1) (numF l (lev l fs)) f = keyF (2 ^ l - 1) (numF l (lev l fs)) g ↔ E (l + 1) f g := by
      unfold keyF
      rw [cz_eq, E_list]
      constructor
      · intro h
        refine ⟨fun p hpp => ?_, fun q hq => ?_⟩
        · obtain ⟨q, hq, e⟩ := List.mem_map.mp ((h _).mp (List.mem_map.mpr ⟨p, hpp, rfl⟩))
          exact ⟨q, hq, (pr f g hf hg p hpp q hq).mp e.symm⟩
        · obtain ⟨p, hpp, e⟩ := List.mem_map.mp ((h _).mpr (List.mem_map.mpr ⟨q, hq, rfl⟩))
          exact ⟨p, hpp, (pr f g hf hg p hpp q hq).mp e⟩
      · intro h x
        constructor
        · intro hx
          obtain ⟨p, hpp, rfl⟩ := List.mem_map.mp hx
          obtain ⟨q, hq, e⟩ := h.1 p hpp
          exact List.mem_map.mpr ⟨q, hq, ((pr f g hf hg p hpp q hq).mpr e).symm⟩
        · intro hx
          obtain ⟨q, hq, rfl⟩ := List.mem_map.mp hx
          obtain ⟨p, hpp, e⟩ := h.2 q hq
          exact List.mem_map.mpr ⟨p, hpp, (pr f g hf hg p hpp q hq).mpr e⟩
    rw [← hkey]
    show ixOf (ded (fs.map (keyF (2 ^ l - 1) (numF l (lev l fs))))) _ = ixOf (ded (fs.map (keyF (2 ^ l - 1) (numF l (lev l fs))))) _ ↔ _
    exact ⟨fun h => idx_inj (mem_ded.mpr (List.mem_map.mpr ⟨f, hf, rfl⟩)) h, fun h => by rw [h]⟩
end M74
/-! Lists joined, turned round; the keys of a dict as a list; extend. -/
namespace Ly
open PySem PySem.Spec PyProof.Rows L2
/-- list(d) -/
def rListN (w : World) : List V → Hp → VK → Prop := fun vs H Q => ∃ d xs, vs = [.ref d] ∧ DAt w H d xs ∧ ∀ p, H p = none → Q (.ref p) (upd H p (.lst (xs.map fun x => V.ref x.2.1)))
theorem cr_listN {X : Cx} (hc : X.calm = true) : CallR X (.type "list") (rListN X.w) := by
  intro pins s σ H vs us Q I r ⟨d, xs, ev, D, q⟩
  subst ev
  obtain ⟨u, rfl, rx⟩ := vals1 r
  cases rx
  obtain ⟨o, ho, Do, hs, hz⟩ := D
  obtain ⟨es, ep, n1, n2, n3, n4⟩ := Do.raw
  refine PySem.W.kdl_call (kdl_raw hs n1 n2) (I.ok.hd hc) (pin_at I ho) (by omega) fun h' tk acc' c' kp e it => ?_
  have ea : acc'.toList = (xs.map fun x => x.2.1).map Value.ref := by
    have hl : acc'.toList.length = xs.length := by rw [Array.length_toList, it.1]; exact n3
    refine List.ext_getElem? fun j => ?_
    rw [List.map_map, List.getElem?_map]
    by_cases hj : j < xs.length
    · have ex : xs[j]? = some xs[j] := List.getElem?_eq_getElem hj
      obtain ⟨en, e1, e2, _⟩ := n4 j _ ex
      have hj' : j < acc'.toList.length := by omega
      have ea' : acc'.toList[j]? = some acc'.toList[j] := List.getElem?_eq_getElem hj'
      obtain ⟨en', e3, e4⟩ := it.2 j acc'.toList[j] (by rw [← Array.getElem?_toList]; exact ea')
      rw [e1] at e3
      cases e3
      rw [ea', e4, e2, ex]
      rfl
    · rw [List.getElem?_eq_none (by omega), List.getElem?_eq_none (by omega)]
      rfl
  have rv : Vals ((xs.map fun x => x.2.1).map V.ref) acc'.toList := by rw [ea]; exact vals_refs _
  have hz' : ((xs.map fun x => x.2.1).map V.ref).length ≤ sizeLine := by rw [List.length_map, List.length_map]; exact hz
  have eq : (xs.map fun x => V.ref x.2.1) = (xs.map fun x => x.2.1).map V.ref := by rw [List.map_map]; rfl
  rw [eq] at q
  exact ⟨.ref s.heap.objs.size, _, I.laid (t' := tk) (o := .lst ((xs.map fun x => x.2.1).map V.ref)) kp (Nat.le_refl _) ⟨hz', acc'.toList, c', rv, by rw [Array.toArray_toList]; exact e⟩, rfl, q _ (I.hok.fresh (Nat.le_refl _))⟩
section
variable {ι : Type} {F : ι → Cx} {K : PySem.W.Frag} {w : World} {ss ss1 ss2 : List Sl} {a b e : Expr} {pos p : Pos} {Rs Ss : List Pr} {Es : List (NestedKey × Pr)}
theorem ep_keys {P : Hp} {Es : List (NestedKey × Pr)} {xs : List DE} (h : EP P Es xs) (k : DKs P xs) : PL P (Es.map fun E => pNK E.1) (xs.map fun x => V.ref x.2.1) := by
  induction h with
  | nil => exact .nil
  | @cons E x Es xs r t ih =>
    refine .cons ?_ (ih fun y hy => k y (List.mem_cons_of_mem _ hy))
    show NK P E.1 _
    rw [← r.1]
    exact (k x (by simp)).1
theorem jf_listD (h : JE F e ss (pD w Es) ss1) (hm : ∀ i, (F i).mg "list" = none) (hg : ∀ i, Gl (F i) "list" := by intro _; rfl) (he : ∀ i, starEach [e] (F i).env = (false, eval e (F i).env) :: starEach [] (F i).env := by intro _; rfl)
    (hpl : ∀ i, (backTo pos (starEach [] (F i).env)).any (·.1) = false := by intro _; rfl) (hw : ∀ i, (F i).w = w := by intro _; rfl) (hc : ∀ i, (F i).calm = true := by intro _; rfl) : JF F (.Call (.Name "list" p) [e] [] pos) ss (Es.map fun E => pNK E.1) ss1 := fun xs P0 H0 ow σ P H S Q k =>
  ⟨tCB (rListN w) (XA F [e]), fun i => by
    have z := pe_callTy (p := p) (pos := pos) (cr_listN (hc i)) (hg i) (hm i) (by decide +kernel) (xa (F := F) (es := [e]) i) (by decide) (by decide) (he i) (hpl i)
    rw [hw i] at z
    exact z, ja_cons h ja_nil he _ _ _ _ _ _ _ S.here _ fun vs P2 H2 S2 e2 r2 => by
    obtain ⟨v, rfl, d, o, ys, rfl, hd, D⟩ := pl1 r2
    refine ⟨d, ys, rfl, ⟨o, S2.ld.at hd (fun z => z), D.ob, D.sm, D.sz⟩, fun l hl => ?_⟩
    have g := Gr.junk S2.ld hl (.lst (ys.map fun x => V.ref x.2.1))
    exact k l _ P2 _ (S.back (S2.grow g) fun a ha => .inl ha) e2 (S2.gone hl) (S2.ld.none hl) upd_same (ep_keys D.ep D.ks)⟩
/-- lists joined -/
theorem jf_cat (ha : JE F a ss (pL Rs) ss1) (hb : JE F b ss1 (pL Ss) ss2) (hz : Rs.length + Ss.length ≤ sizeLine) : JF F (.BinOp a .Add b pos) ss (Rs ++ Ss) ss2 := fun xs P0 H0 ow σ P H S Q k =>
  ⟨tOp rCat (XE F a) (XE F b), fun i => pe_op op_cat (xe i) (xe i), ha _ _ _ _ _ _ _ S.here _ fun v P2 H2 S2 e2 r2 => hb _ _ _ _ _ _ _ S2 _ fun u P3 H3 S3 e3 r3 => by
    obtain ⟨l, us, rfl, h3, h4⟩ := (pL Rs).up e3 r2
    obtain ⟨m, vs, rfl, g3, g4⟩ := r3
    refine ⟨l, m, us, vs, rfl, rfl, S3.ld.at h3 (fun z => z), S3.ld.at g3 (fun z => z), by rw [h4.len, g4.len]; exact hz, fun q hq => ?_⟩
    have g := Gr.junk S3.ld hq (.lst (us ++ vs))
    exact k q _ P3 _ (S.back (S3.grow g) fun a ha => .inl ha) (e2.trans e3) (S3.gone hq) (S3.ld.none hq) upd_same (h4.app g4)⟩
/-- a slot's own list and another, joined -/
theorem jf_catO (i : Nat) (ho : ∀ j, PE (F j) a (tVar i)) (hb : JE F b ss (pL Ss) ss1) (hs0 : ss[i]? = some (.ow (oL Rs)) := by rfl) (hs1 : ss1[i]? = some (.ow (oL Rs)) := by rfl) (hz : Rs.length + Ss.length ≤ sizeLine) : JF F (.BinOp a .Add b pos) ss (Rs ++ Ss) ss1 := fun xs P0 H0 ow σ P H S Q k => by
  obtain ⟨l, us, ev, _, _⟩ := S.ownL hs0
  refine ⟨tOp rCat (tVar i) (XE F b), fun j => pe_op op_cat (ho j) (xe j), .ref l, ev, hb _ _ _ _ _ _ _ S.here _ fun u P3 H3 S3 e3 r3 => ?_⟩
  obtain ⟨l', us', ev', h3, h4⟩ := S3.ownL hs1
  rw [ev] at ev'
  obtain rfl : l = l' := by injection ev' with z; injection z with z; injection z
  obtain ⟨m, vs, rfl, g3, g4⟩ := r3
  refine ⟨l, m, us', vs, rfl, rfl, h3, S3.ld.at g3 (fun z => z), by rw [h4.len, g4.len]; exact hz, fun q hq => ?_⟩
  have g := Gr.junk S3.ld hq (.lst (us' ++ vs))
  exact k q _ P3 _ (S.back (S3.grow g) fun a ha => .inl ha) e3 (S3.gone hq) (S3.ld.none hq) upd_same (h4.app g4)
theorem PL.rev {P : Hp} {Rs : List Pr} {vs : List V} (h : PL P Rs vs) : PL P Rs.reverse vs.reverse := by
  induction h with
  | nil => exact .nil
  | cons r _ ih =>
    rw [List.reverse_cons, List.reverse_cons]
    exact ih.app (.cons r .nil)
/-- xs[::-1] -/
theorem jf_rev {k1 : Nat} {q1 q2 q3 : Pos} (h : JE F e ss (pL Rs) ss1) (hK : ∀ i, (F i).K = K := by intro _; rfl) : JF F (.Subscript e (.Slice none none (some (.UnaryOp .USub (.Constant (.int 1) k1 q1) q2)) q3) pos) ss Rs.reverse ss1 := fun xs P0 H0 ow σ P H S Q k =>
  ⟨tRevL K (XE F e), fun i => by have z := pe_revL (k := k1) (p1 := q1) (p2 := q2) (p3 := q3) (pos := pos) (xe (F := F) (e := e) i); rw [hK i] at z; exact z, h _ _ _ _ _ _ _ S.here _ fun v P2 H2 S2 e2 r2 => by
    obtain ⟨l, us, rfl, h3, h4⟩ := r2
    refine ⟨l, us, rfl, .inl (S2.ld.rd h3), fun q hq => ?_⟩
    have g := Gr.junk S2.ld hq (.lst us.reverse)
    exact k q _ P2 _ (S.back (S2.grow g) fun a ha => .inl ha) e2 (S2.gone hq) (S2.ld.none hq) upd_same h4.rev⟩
end
section
variable {X : Cx} {K : PySem.W.Frag} {xs : List Addr} {P0 H0 : Hp} {ow : List Addr} {σ : L2.St} {P H : Hp} {ss ss1 ss2 : List Sl} {D : Ends} {rest : List Stmt} {e : Expr} {pos : Pos}
/-- xs.extend(e), xs a slot's own list -/
theorem w_ext (i : Nat) {o : Expr} {apos cpos : Pos} {Rs Ss : List Pr} (S : S8 xs P0 H0 ow σ P H ss) (ho : ∀ j, PE (C1 X j) o (tVar i)) (h : JE (C1 X) e ss (pL Ss) ss1) (hs0 : ss[i]? = some (.ow (oL Rs)) := by rfl) (hs1 : ss1[i]? = some (.ow (oL Rs)) := by rfl)
    (hz : Rs.length + Ss.length ≤ sizeLine) (k : ∀ ow P H, S8 xs P0 H0 ow σ P H (ss1.set i (.ow (oL (Rs ++ Ss)))) → XS X rest D σ H)
    (hbase : attributeBase o "extend" X.env (eval o X.env) = eval o X.env := by rfl) (hsw : swapsWith (.Call (.Attribute o "extend" apos) [e] [] cpos) none pos.line X.env = pure false := by rfl)
    (hline : (apos.endLine == cpos.line) = true := by rfl) (hst : starEach [e] X.env = (false, eval e X.env) :: starEach [] X.env := by rfl) (hplain : (backTo cpos (starEach [] X.env)).any (·.1) = false := by rfl)
    (hfew : ((backTo cpos (starEach [e] X.env)).all (fun x => !x.1) && (backToKw cpos (keywordEach [] X.env)).all (fun x => x.1.isSome) && decide (([e] : List Expr).length + ([] : List Keyword).length + (if ([] : List Keyword).isEmpty then 0 else 1) < 30)) = true := by rfl) :
    XS X (.Expr (.Call (.Attribute o "extend" apos) [e] [] cpos) pos :: rest) D σ H := by
  refine w_cons ⟨_, ps_expr (pe_bm PySem.F.plainAttrs_list PySem.F.slot_list_extend PySem.F.type_list_extend (fun pins s σ H x xs v us Q I rx rv h => mt_extend pins s σ H x xs v us Q I rx rv h) (ho ()) (pa_cons (xe (F := C1 X) ()) pa_nil hst) hbase hfew hline hst hplain) hsw, ?_⟩
  obtain ⟨v, fp, ev, ⟨l, vs, rfl, rfl, hl, rs⟩, _, _⟩ := S.owned hs0
  refine ⟨_, ev, .inl ⟨rfl, vs, .inl (.inl hl)⟩, ?_⟩
  refine h _ _ _ _ _ _ _ S _ fun u P2 H2 S2 _ r => ?_
  obtain ⟨v', fp', ev', ⟨l', vs', rfl, rfl, hl', rs'⟩, _, put⟩ := S2.ownedS hs1
  rw [ev] at ev'
  obtain rfl : l = l' := by injection ev' with z; injection z with z; injection z
  obtain ⟨m, us, rfl, g3, g4⟩ := r
  exact ⟨l, m, vs', us, rfl, rfl, hl', S2.ld.at g3 (fun z => z), by rw [rs'.len, g4.len]; exact hz, k ow P2 _ (put (upd H2 l (.lst (vs' ++ us))) (oL (Rs ++ Ss)) (fun b hb => upd_ne (fun z => hb (by simp [z]))) (fun b hb => by
    have hb : b = l := by simpa using hb
    rw [hb, upd_same]
    exact Option.some_ne_none _) ⟨l, _, rfl, rfl, upd_same, rs'.app g4⟩)⟩
end
end Ly
/-! How many places and forms there are: the plain part. -/
namespace M74
open Ly (idx NP)
def wb (b : Blk) : Nat := if isE b then 1 else 2
def wt (f : Ln) : Nat := (f.map wb).sum
theorem wt_nil : wt [] = 0 := rfl
theorem wt_cons (b : Blk) (f : Ln) : wt (b :: f) = wb b + wt f := rfl
theorem wt_app (f g : Ln) : wt (f ++ g) = wt f + wt g := by simp [wt]
theorem wb_pos (b : Blk) : 1 ≤ wb b ∧ wb b ≤ 2 := by unfold wb; split <;> omega
theorem len_wt : ∀ f : Ln, f.length ≤ wt f
  | [] => Nat.le_refl _
  | b :: f => by rw [wt_cons, List.length_cons]; have := len_wt f; have := (wb_pos b).1; omega
theorem wt_fin (k : Nat) : wt (fin k) ≤ 2 := by
  unfold fin
  split
  · exact Nat.zero_le _
  · exact Nat.le_refl 2
theorem wt_bl (b : Blk) (j : Nat) : wt (bl b j) ≤ wb b + 1 := by
  cases b with
  | n k => exact Nat.le_trans (wt_fin j) (Nat.le_succ 2)
  | up => exact wt_fin j
  | dn => exact Nat.le_succ 1
theorem wt_br (b : Blk) (j : Nat) : wt (br b j) ≤ wb b + 1 := by
  cases b with
  | n k => exact Nat.le_trans (wt_fin _) (Nat.le_succ 2)
  | up => exact Nat.le_succ 1
  | dn => exact wt_fin j
theorem wt_split {f : Ln} {i : Nat} {b : Blk} (h : f[i]? = some b) : wt f = wt (f.take i) + (wb b + wt (f.drop (i + 1))) := by
  conv => lhs; rw [split_at h]
  rw [wt_app, wt_cons]
theorem wt_lf {f : Ln} {i : Nat} {b : Blk} (h : f[i]? = some b) (j : Nat) : wt (lf f i j) ≤ wt f + 1 := by
  rw [lf_at h, wt_app, wt_split h]
  have := wt_bl b j
  omega
theorem wt_rg {f : Ln} {i : Nat} {b : Blk} (h : f[i]? = some b) (j : Nat) : wt (rg f i j) ≤ wt f + 1 := by
  rw [rg_at h, wt_app, wt_split h]
  have := wt_br b j
  omega
theorem blen (b : Blk) (j : Nat) : (bl b j).length ≤ 1 ∧ (br b j).length ≤ 1 := by
  have key : ∀ k, (fin k).length ≤ 1 := fun k => by unfold fin; split <;> simp
  cases b <;> exact ⟨by first | exact key _ | exact Nat.le_refl _, by first | exact key _ | exact Nat.le_refl _⟩
theorem len_lf {f : Ln} {i : Nat} {b : Blk} (h : f[i]? = some b) (j : Nat) : (lf f i j).length ≤ f.length := by
  have hi := (List.getElem?_eq_some_iff.mp h).1
  rw [lf_at h, List.length_append, List.length_take]
  have := (blen b j).1
  omega
theorem len_rg {f : Ln} {i : Nat} {b : Blk} (h : f[i]? = some b) (j : Nat) : (rg f i j).length ≤ f.length := by
  have hi := (List.getElem?_eq_some_iff.mp h).1
  rw [rg_at h, List.length_append, List.length_drop]
  have := (blen b j).2
  omega
theorem wt_dl {acc : Ln} {c : Blk} (h : acc.getLast? = some c) : wt acc = wt acc.dropLast + wb c := by
  conv => lhs; rw [last_split h]
  rw [wt_app, wt_cons, wt_nil]
  rfl
theorem wt_pstep (acc : Ln) (b : Blk) : wt (pstep acc b) ≤ wt acc + wb b := by
  unfold pstep
  split <;> rename_i h <;> first
    | (rw [wt_app, wt_cons, wt_nil]; omega)
    | (rw [wt_app, wt_cons, wt_nil]; have e := wt_dl h; simp only [wb, isE] at e ⊢; simp at e ⊢; omega)
    | omega
theorem wt_fold : ∀ (a acc : Ln), wt (a.foldl pstep acc) ≤ wt acc + wt a
  | [], acc => by simp [wt_nil]
  | b :: a, acc => by
    rw [List.foldl_cons, wt_cons]
    have := wt_fold a (pstep acc b)
    have := wt_pstep acc b
    omega
theorem wt_filter (p : Blk → Bool) : ∀ f : Ln, wt (f.filter p) ≤ wt f
  | [] => Nat.le_refl _
  | b :: f => by
    rw [List.filter_cons, wt_cons]
    have := wt_filter p f
    split
    · rw [wt_cons]; omega
    · omega
theorem wb_cut (m : Nat) (b : Blk) : wb (cutB m b) = wb b := by cases b <;> rfl
theorem wt_cut (m : Nat) : ∀ f : Ln, wt (f.map (cutB m)) = wt f
  | [] => rfl
  | b :: f => by rw [List.map_cons, wt_cons, wt_cons, wb_cut, wt_cut m f]
theorem wt_mrg (a : Ln) : wt (mrg a) ≤ wt a := by have := wt_fold a []; simpa [mrg, wt_nil] using this
theorem wt_form (m : Nat) (a : Ln) : wt (form m a) ≤ wt a := by
  unfold form
  split
  · exact Nat.le_trans (wt_filter _ _) (wt_mrg a)
  · rw [wt_cut]; exact wt_mrg a
theorem len_pstep (acc : Ln) (b : Blk) : (pstep acc b).length ≤ acc.length + 1 := by
  unfold pstep
  split <;> simp <;> omega
theorem len_fold : ∀ (a acc : Ln), (a.foldl pstep acc).length ≤ acc.length + a.length
  | [], acc => by simp
  | b :: a, acc => by
    rw [List.foldl_cons, List.length_cons]
    have := len_fold a (pstep acc b)
    have := len_pstep acc b
    omega
theorem len_form (m : Nat) (a : Ln) : (form m a).length ≤ a.length := by
  have h : (mrg a).length ≤ a.length := by have := len_fold a []; simpa [mrg] using this
  unfold form
  split
  · exact Nat.le_trans (List.length_filter_le _ _) h
  · rw [List.length_map]; exact h
theorem num_form {m k : Nat} {a : Ln} (h : Blk.n k ∈ form m a) : k ≤ m := by
  unfold form at h
  split at h
  · have := (List.mem_filter.mp h).2
    exact absurd this (by simp [isE])
  · obtain ⟨b, _, e⟩ := List.mem_map.mp h
    cases b with
    | n j => simp only [cutB, Blk.n.injEq] at e; omega
    | up => exact absurd e (by simp [cutB])
    | dn => exact absurd e (by simp [cutB])
/-! ### places -/
theorem spots_num (m k : Nat) : (spotsOf m (.n k)).length ≤ 2 * m + 1 := by
  have h : (spotsOf m (.n k)).length ≤ (List.range (m + 1) ++ List.range' (k - m) m).length := by
    refine L2.nat_nodup_len _ _ (List.Pairwise.filter _ List.nodup_range) fun x hx => ?_
    obtain ⟨h1, h2⟩ := List.mem_filter.mp hx
    have h1 := List.mem_range.mp h1
    rw [List.mem_append, List.mem_range, List.mem_range'_1]
    simp at h2
    omega
  rw [List.length_append, List.length_range, List.length_range'] at h
  omega
theorem spots_wb (l : Nat) (b : Blk) : (spotsOf (2 ^ l - 1) b).length ≤ 2 ^ l * wb b ∧ (spotsOf (2 ^ l - 1) b).length ≤ 2 * 2 ^ l - 1 := by
  have hp := pow_pos l
  cases b with
  | n k =>
    have h := spots_num (2 ^ l - 1) k
    have e : wb (.n k) = 2 := rfl
    rw [e]
    omega
  | up =>
    have e : wb .up = 1 := rfl
    rw [e]
    simp only [spotsOf, List.length_range]
    omega
  | dn =>
    have e : wb .dn = 1 := rfl
    rw [e]
    simp only [spotsOf, List.length_range]
    omega
theorem plc_len (l : Nat) (f : Ln) : (plc (2 ^ l - 1) f).length ≤ 2 ^ l * wt f ∧ (plc (2 ^ l - 1) f).length ≤ f.length * (2 * 2 ^ l - 1) := by
  have key : ∀ ys : List (Nat × Blk), (ys.flatMap fun y => (spotsOf (2 ^ l - 1) y.2).map fun j => (y.1, j)).length ≤ 2 ^ l * wt (ys.map (·.2)) ∧ (ys.flatMap fun y => (spotsOf (2 ^ l - 1) y.2).map fun j => (y.1, j)).length ≤ ys.length * (2 * 2 ^ l - 1) := by
    intro ys
    induction ys with
    | nil => simp [wt_nil]
    | cons y ys ih =>
      have h := spots_wb l y.2
      rw [List.flatMap_cons, List.length_append, List.length_map, List.map_cons, wt_cons, List.length_cons, Nat.mul_add, Nat.succ_mul]
      omega
  have e : (idx f).map (·.2) = f := by
    unfold idx
    rw [List.map_snd_zip]
    simp
  have h := key (idx f)
  rw [e, Ly.idx_len] at h
  exact h
/-! ### the levels stay small -/
def okB : Nat → Nat → Nat → Nat → Prop
  | n, _, _, 0 => n ≤ 16000000
  | n, m, c, l + 1 => n ≤ 16000000 ∧ 2 ^ l * m ≤ 62 ∧ okB (n * (2 * min (2 ^ l * m) (c * (2 * 2 ^ l - 1)))) (m + 1) c l
theorem okB_mono : ∀ {l n n' m m' c : Nat}, n ≤ n' → m ≤ m' → okB n' m' c l → okB n m c l
  | 0, _, _, _, _, _, h, _, g => Nat.le_trans h g
  | l + 1, n, n', m, m', c, h, k, g => by
    obtain ⟨g1, g2, g3⟩ := g
    have e : 2 ^ l * m ≤ 2 ^ l * m' := Nat.mul_le_mul_left _ k
    refine ⟨Nat.le_trans h g1, Nat.le_trans e g2, okB_mono (Nat.mul_le_mul h (Nat.mul_le_mul_left _ ?_)) (Nat.succ_le_succ k) g3⟩
    omega
theorem okB.n {n m c l : Nat} (h : okB n m c l) : n ≤ 16000000 := by
  cases l with
  | zero => exact h
  | succ l => exact h.1
/-- what is told of the lines of a level -/
def Fm (m c : Nat) (f : Ln) : Prop := f.length ≤ c ∧ wt f ≤ m ∧ ∀ k, Blk.n k ∈ f → k ≤ 1000
theorem fm_hv {l m c : Nat} {f : Ln} {p : NP} (hl : l ≤ 5) (h : Fm m c f) (hp : p ∈ plc (2 ^ l - 1) f) : Fm (m + 1) c (hv (2 ^ l - 1) f p.1 p.2).1 ∧ Fm (m + 1) c (hv (2 ^ l - 1) f p.1 p.2).2 := by
  obtain ⟨b, hb, _⟩ := mem_plc.mp hp
  have h2 : 2 ^ l ≤ 2 ^ 5 := Nat.pow_le_pow_right (by decide) hl
  have e5 : 2 ^ 5 = 32 := rfl
  refine ⟨⟨Nat.le_trans (len_form _ _) (Nat.le_trans (len_lf hb p.2) h.1), Nat.le_trans (wt_form _ _) (Nat.le_trans (wt_lf hb p.2) (Nat.succ_le_succ h.2.1)), fun k hk => ?_⟩,
    ⟨Nat.le_trans (len_form _ _) (Nat.le_trans (len_rg hb p.2) h.1), Nat.le_trans (wt_form _ _) (Nat.le_trans (wt_rg hb p.2) (Nat.succ_le_succ h.2.1)), fun k hk => ?_⟩⟩
  · have := num_form hk; omega
  · have := num_form hk; omega
theorem fm_lev {l m c : Nat} {fs : List Ln} (hl : l ≤ 5) (h : ∀ f ∈ fs, Fm m c f) : ∀ g ∈ lev l fs, Fm (m + 1) c g := by
  intro g hg
  obtain ⟨f, hf, p, hp, e⟩ := lev_of hg
  have q := fm_hv hl (h f hf) hp
  rcases e with e | e
  · rw [e]; exact q.1
  · rw [e]; exact q.2
theorem flat_len {α β : Type} (g : α → List β) (k : Nat) : ∀ l : List α, (∀ x ∈ l, (g x).length ≤ k) → (l.flatMap g).length ≤ l.length * k
  | [], _ => by simp
  | x :: l, h => by
    rw [List.flatMap_cons, List.length_append, List.length_cons, Nat.succ_mul]
    have h1 := flat_len g k l fun y hy => h y (List.mem_cons_of_mem _ hy)
    have h2 := h x (by simp)
    omega
/-- all halves of a level, one after another -/
def halvesOf (l : Nat) (fs : List Ln) : List Ln := fs.flatMap fun f => (plc (2 ^ l - 1) f).flatMap fun p => [(hv (2 ^ l - 1) f p.1 p.2).1, (hv (2 ^ l - 1) f p.1 p.2).2]
theorem lev_ded (l : Nat) (fs : List Ln) : lev l fs = ded (halvesOf l fs) := rfl
theorem halves_len {l m c : Nat} {fs : List Ln} (h : ∀ f ∈ fs, Fm m c f) : (halvesOf l fs).length ≤ fs.length * (2 * min (2 ^ l * m) (c * (2 * 2 ^ l - 1))) := by
  refine flat_len _ _ fs fun f hf => ?_
  have h1 := plc_len l f
  have h2 := h f hf
  have e1 : 2 ^ l * wt f ≤ 2 ^ l * m := Nat.mul_le_mul_left _ h2.2.1
  have e2 : f.length * (2 * 2 ^ l - 1) ≤ c * (2 * 2 ^ l - 1) := Nat.mul_le_mul_right _ h2.1
  have h3 : ((plc (2 ^ l - 1) f).flatMap fun p => [(hv (2 ^ l - 1) f p.1 p.2).1, (hv (2 ^ l - 1) f p.1 p.2).2]).length = (plc (2 ^ l - 1) f).length * 2 := by
    generalize plc (2 ^ l - 1) f = ps
    induction ps with
    | nil => rfl
    | cons p ps ih => rw [List.flatMap_cons, List.length_append, ih, List.length_cons]; simp; omega
  rw [h3]
  omega
theorem okB_lev {l m c : Nat} {fs : List Ln} (h : ∀ f ∈ fs, Fm m c f) (ok : okB fs.length m c (l + 1)) : okB (lev l fs).length (m + 1) c l ∧ (halvesOf l fs).length ≤ 16000000 ∧ ∀ f ∈ fs, (plc (2 ^ l - 1) f).length ≤ 62 := by
  obtain ⟨_, o2, o3⟩ := ok
  have h1 := halves_len (l := l) h
  refine ⟨okB_mono (Nat.le_trans (by rw [lev_ded]; exact ded_len _) h1) (Nat.le_refl _) o3, Nat.le_trans h1 o3.n, fun f hf => ?_⟩
  have e1 : 2 ^ l * wt f ≤ 2 ^ l * m := Nat.mul_le_mul_left _ (h f hf).2.1
  have := (plc_len l f).1
  omega
theorem nodup_ded {α : Type} [DecidableEq α] (l : List α) : (ded l).Nodup := by
  have key : ∀ (l acc : List α), acc.Nodup → (l.foldl addD acc).Nodup := by
    intro l
    induction l with
    | nil => exact fun acc h => h
    | cons x l ih =>
      intro acc h
      rw [List.foldl_cons]
      refine ih _ ?_
      unfold addD
      split
      · exact h
      · rename_i c
        exact List.nodup_append.mpr ⟨h, by simp, fun a ha b hb => by
          have : b = x := by simpa using hb
          subst this
          exact fun e => c (e ▸ ha)⟩
  exact key l [] List.nodup_nil
theorem ded_id {α : Type} [DecidableEq α] {l : List α} (h : l.Nodup) : ded l = l := by
  have key : ∀ (l acc : List α), (acc ++ l).Nodup → l.foldl addD acc = acc ++ l := by
    intro l
    induction l with
    | nil => intro acc _; simp
    | cons x l ih =>
      intro acc h
      have c : x ∉ acc := fun z => (List.nodup_append.mp h).2.2 x z x (by simp) rfl
      have e : addD acc x = acc ++ [x] := by unfold addD; rw [if_neg c]
      rw [List.foldl_cons, e, ih _ (by rw [List.append_assoc]; exact h), List.append_assoc]
      rfl
  simpa [ded] using key l [] (by simpa using h)
theorem ixOf_le {α : Type} [DecidableEq α] (l : List α) (x : α) : ixOf l x ≤ l.length := by unfold ixOf; exact List.idxOf_le_length
theorem numF_lt (l : Nat) (fs : List Ln) (f : Ln) : numF l fs f ≤ fs.length := by
  cases l with
  | zero => exact Nat.zero_le _
  | succ l =>
    show ixOf _ _ ≤ _
    refine Nat.le_trans (ixOf_le _ _) (Nat.le_trans (ded_len _) ?_)
    rw [List.length_map]
    exact Nat.le_refl _
/-- an index stays while the list grows -/
theorem ixOf_app {α : Type} [DecidableEq α] {acc : List α} {x : α} (h : x ∈ acc) (t : List α) : ixOf (acc ++ t) x = ixOf acc x := by
  unfold ixOf
  rw [List.idxOf_append, if_pos h]
theorem addD_ext {α : Type} [DecidableEq α] (acc : List α) (x : α) : ∃ t, addD acc x = acc ++ t := by
  unfold addD
  split
  · exact ⟨[], by simp⟩
  · exact ⟨[x], rfl⟩
theorem fold_ext {α : Type} [DecidableEq α] : ∀ (l acc : List α), ∃ t, l.foldl addD acc = acc ++ t
  | [], acc => ⟨[], by simp⟩
  | x :: l, acc => by
    obtain ⟨t1, e1⟩ := addD_ext acc x
    obtain ⟨t2, e2⟩ := fold_ext l (addD acc x)
    exact ⟨t1 ++ t2, by rw [List.foldl_cons, e2, e1, List.append_assoc]⟩
theorem mem_addD {α : Type} [DecidableEq α] (acc : List α) (x : α) : x ∈ addD acc x := by
  unfold addD
  split
  · rename_i h; exact h
  · simp
/-- the levels, from above -/
def Wl (r : Nat) (fs : List Ln) : Nat → List Ln
  | 0 => fs
  | i + 1 => lev (r - 1 - i) (Wl r fs i)
theorem Wl_nodup {r : Nat} {fs : List Ln} (h : fs.Nodup) : ∀ i, (Wl r fs i).Nodup
  | 0 => h
  | i + 1 => nodup_ded _
structure Lv (r m c : Nat) (fs : List Ln) (i : Nat) : Prop where
  fm : ∀ f ∈ Wl r fs i, Fm (m + i) c f
  ok : okB (Wl r fs i).length (m + i) c (r - i)
theorem Wl_ok {r m c : Nat} {fs : List Ln} (hr : r ≤ 5) (h : ∀ f ∈ fs, Fm m c f) (ok : okB fs.length m c r) : ∀ i, i ≤ r → Lv r m c fs i
  | 0, _ => ⟨h, ok⟩
  | i + 1, hi => by
    have ih := Wl_ok hr h ok i (by omega)
    have e : r - i = (r - 1 - i) + 1 := by omega
    have o := ih.ok
    rw [e] at o
    refine ⟨fm_lev (by omega) ih.fm, ?_⟩
    have q := (okB_lev ih.fm o).1
    have e2 : r - (i + 1) = r - 1 - i := by omega
    rw [e2]
    exact q
end M74
/-! The text of law_k74_line_rounds by places, its data. -/
namespace K74
open PySem PySem.Spec PyProof.Rows L2 Ly M74
def top (i : Nat) : Stmt := PySem.Challenge.pw_framesays_k74_line_rounds.main.body.getD i (.Pass ⟨0, 0, 0, 0⟩)
/-! ### data -/
def kb : Blk → V
  | .n k => .int (k : Int)
  | .up => .str "up"
  | .dn => .str "down"
abbrev pK (b : Blk) : Pr := pV (kb b)
abbrev pBs (K : PySem.W.Frag) (bs : Ln) : Pr := pT K (bs.map pK)
/-- what the written part holds besides the defs -/
structure Cst (K : PySem.W.Frag) (mg : Str → Option Value) : Prop where
  bt : Bt mg
  END : ∃ a, mg "ENDLESS" = some (.ref a) ∧ ∀ H : Hp, SqT K H a [.str "up", .str "down"]
  MB : ∃ t, mg "MOST_BLOCKS" = some (.int 8 t)
  MN : ∃ t, mg "MOST_NUMBER" = some (.int 1000 t)
  MR : ∃ t, mg "MOST_ROUNDS" = some (.int 5 t)
section
variable {ι : Type} {F : ι → Cx} {K : PySem.W.Frag} {ss : List Sl}
theorem je_END {p : Pos} {aE : Addr} (h : ∀ i, (F i).mg "ENDLESS" = some (.ref aE)) (hT : ∀ H : Hp, SqT K H aE [.str "up", .str "down"]) (hg : ∀ i, Gl (F i) "ENDLESS" := by intro _; rfl) : JE F (.Name "ENDLESS" p) ss (pC K [.str "up", .str "down"]) ss := fun xs P0 H0 ow σ P H S Q k =>
  ⟨tC (.ref aE), fun i => pe_glob (hg i) (h i) rfl, k _ P H S (Same.refl _) ⟨aE, rfl, hT⟩⟩
theorem je_num {p : Pos} {x : Str} {n : Int} (T : ∀ i, ∃ t, (F i).mg x = some (.int n t)) (hg : ∀ i, Gl (F i) x := by intro _; rfl) (hd : (x == ("__debug__" : Str)) = false := by decide) : JE F (.Name x p) ss (pI n) ss := fun xs P0 H0 ow σ P H S Q k =>
  ⟨tC (.int n), fun i => by obtain ⟨t, ht⟩ := T i; exact pe_glob (hg i) ht ⟨t, rfl⟩ hd, k _ P H S (Same.refl _) rfl⟩
end
abbrev FnP (K : PySem.W.Frag) (x : Str) (st : Stmt) (f : Addr) (fd : FuncData) : Prop := Fun K x x st f fd
section
variable {P : Program} {w : World} {K : PySem.W.Frag} {mg : Str → Option Value} {base : Heap}
/-! ### _finite_blocks -/
abbrev sFin : Stmt := top 15
abbrev spFin (K : PySem.W.Frag) : Sp := spF (fun k : Nat => [pI k]) (fun _ => True) (fun k => pBs K (fin k))
theorem scFin : FnScope ["many"] ["many"] (defScope sFin) := ⟨rfl, rfl, rfl, by decide +kernel, rfl, by decide +kernel, by decide +kernel⟩
theorem ok_fin {f : Addr} {fd : FuncData} (F : FnP K "_finite_blocks" sFin f fd) : FnOk P w K mg base CX0 1 f fd ["many"] (spFin K) := by
  refine fnF 0 F scFin (fun _ => rfl) fun cdv A outer s H0 Q E hr P0 k σ _ S kQ => ?_
  refine w_if S (jt_cmp (fun _ => op_eq) rv_eqI (je_v 0 fun _ => pv 0) je_i (nomark _)) (fun h P H S => ?_) (fun h P H S => w_nil ?_)
  · refine w_ret S (je_tup K ja_nil) fun v P H S r => kQ v P H S.gr ?_
    have e : k = 0 := by simpa using h
    subst e
    exact r
  · refine w_ret S (je_tup K (ja_cons (je_v 0 fun _ => pv 0) ja_nil)) fun v P H S r => kQ v P H S.gr ?_
    have e : k ≠ 0 := by simpa using h
    show (pBs K (fin k)).p P v
    rw [fin_pos (by omega)]
    exact r
/-! ### left_blocks, right_blocks -/
theorem kb_scal (b : Blk) (s : Str) : scal (kb b) (.str s) = true := by cases b <;> rfl
theorem kb_dn (b : Blk) : decide (kb b = .str "down") = decide (b = .dn) := by
  cases b with
  | n k => simp [kb]
  | up => decide +kernel
  | dn => simp [kb]
theorem kb_up (b : Blk) : decide (kb b = .str "up") = decide (b = .up) := by
  cases b with
  | n k => simp [kb]
  | up => simp [kb]
  | dn => decide +kernel
abbrev sLeft : Stmt := top 13
abbrev sRight : Stmt := top 14
abbrev arPl (K : PySem.W.Frag) (a : Ln × Nat × Nat) : List Pr := [pBs K a.1, pI a.2.1, pI a.2.2]
def preL (a : Ln × Nat × Nat) : Prop := a.1.length ≤ 1000 ∧ a.2.1 < a.1.length
def preR (a : Ln × Nat × Nat) : Prop := a.1.length ≤ 1000 ∧ a.2.1 < a.1.length ∧ ∀ b, a.1[a.2.1]? = some b → okJ b a.2.2
abbrev spLeft (K : PySem.W.Frag) : Sp := spF (arPl K) preL (fun a => pBs K (lf a.1 a.2.1 a.2.2))
abbrev spRight (K : PySem.W.Frag) : Sp := spF (arPl K) preR (fun a => pBs K (rg a.1 a.2.1 a.2.2))
theorem scLeft : FnScope ["blocks", "index", "number"] ["blocks", "index", "number"] (defScope sLeft) := ⟨rfl, rfl, rfl, by decide +kernel, rfl, by decide +kernel, by decide +kernel⟩
theorem scRight : FnScope ["blocks", "index", "number", "block"] ["blocks", "index", "number"] (defScope sRight) := ⟨rfl, rfl, rfl, by decide +kernel, rfl, by decide +kernel, by decide +kernel⟩
theorem fin_len (k : Nat) : (fin k).length ≤ 1 := by unfold fin; split <;> simp
theorem bs_ix {bs : Ln} {i : Nat} {b : Blk} (h : bs[i]? = some b) : ixN (bs.map pK).length (i : Int) = some i ∧ (bs.map pK)[i]? = some (pK b) := by
  have hi := (List.getElem?_eq_some_iff.mp h).1
  exact ⟨ixN_nat rfl (by rw [List.length_map]; exact hi), by rw [List.getElem?_map, h]; rfl⟩
theorem ok_left {f : Addr} {fd : FuncData} (F : FnP K "left_blocks" sLeft f fd) (cF : ∀ A : Around, Room 1 A → Cal P w K mg base A "_finite_blocks" (spFin K)) : FnOk P w K mg base CX0 2 f fd ["blocks", "index", "number"] (spLeft K) := by
  refine fnF 1 F scLeft (fun _ => rfl) fun cdv A outer s H0 Q E hr P0 a σ pre S kQ => ?_
  obtain ⟨bs, i, j⟩ := a
  obtain ⟨hl, hi⟩ := pre
  dsimp only at hl hi
  have hb : bs[i]? = some bs[i] := List.getElem?_eq_getElem hi
  have e1 : ∀ b, bs[i] = b → lf bs i j = bs.take i ++ bl b j := fun b e => by unfold lf; rw [hb, e]
  have sl : ∀ t : Ln, t.length ≤ 1 → ((bs.take i).map pK).length + (t.map pK).length ≤ sizeLine := fun t ht => le_line (by simp; omega)
  refine w_if S (jt_cmp (fun _ => op_eq) (rv_eq (kb_scal _ _)) (je_ixT (je_v 0 fun _ => pv 0) (je_v 1 fun _ => pv 1) (fun _ _ => rfl) (bs_ix hb).1 (bs_ix hb).2) je_s (nomark _)) (fun h P H S => ?_) (fun h P H S => w_nil ?_)
  all_goals
    rw [kb_dn] at h
  · have e : bs[i] = .dn := by simpa using h
    refine w_ret S (je_catT ((je_slT (je_v 0 fun _ => pv 0) jo_no (jo_e (je_v 1 fun _ => pv 1))).is (by rw [cutR_map, cutR_to])) (je_tup K (ja_cons je_s ja_nil)) (sl [.dn] (by simp))) fun v P H S r => kQ v P H S.gr ?_
    show (pBs K (lf bs i j)).p P v
    rw [e1 _ e, pBs, List.map_append]
    exact r
  · have e : bs[i] ≠ .dn := by simpa using h
    refine w_ret S (je_catT ((je_slT (je_v 0 fun _ => pv 0) jo_no (jo_e (je_v 1 fun _ => pv 1))).is (by rw [cutR_map, cutR_to])) (je_call (fun _ => cF _ hr) j (ja_cons (je_v 2 fun _ => pv 2) ja_nil) trivial) (sl _ (fin_len j))) fun v P H S r => kQ v P H S.gr ?_
    show (pBs K (lf bs i j)).p P v
    have : bl bs[i] j = fin j := by cases hc : bs[i] <;> first | rfl | exact absurd hc e
    rw [e1 _ rfl, this, pBs, List.map_append]
    exact r
theorem ok_right {f : Addr} {fd : FuncData} (F : FnP K "right_blocks" sRight f fd) (cF : ∀ A : Around, Room 1 A → Cal P w K mg base A "_finite_blocks" (spFin K)) : FnOk P w K mg base CX0 2 f fd ["blocks", "index", "number"] (spRight K) := by
  refine fnF 1 F scRight (fun _ => rfl) fun cdv A outer s H0 Q E hr P0 a σ pre S kQ => ?_
  obtain ⟨bs, i, j⟩ := a
  obtain ⟨hl, hi, hok⟩ := pre
  dsimp only at hl hi hok
  obtain ⟨b, hb⟩ : ∃ b, bs[i]? = some b := ⟨_, List.getElem?_eq_getElem hi⟩
  have e1 : rg bs i j = br b j ++ bs.drop (i + 1) := by unfold rg; rw [hb]
  have ec : pT K (cutR (bs.map pK) (some ((i : Int) + 1)) none) = pBs K (bs.drop (i + 1)) := by rw [cutR_map, cutR_from1]
  have sl : ∀ t : Ln, t.length ≤ 1 → (t.map pK).length + ((bs.drop (i + 1)).map pK).length ≤ sizeLine := fun t ht => le_line (by simp; omega)
  have fin : ∀ {P : Hp} {v : V} (t : Ln), br b j = t → (pT K (t.map pK ++ (bs.drop (i + 1)).map pK)).p P v → (pBs K (rg bs i j)).p P v := fun t et r => by rw [e1, et, pBs, List.map_append]; exact r
  refine w_asg 3 S (je_ixT (je_v 0 fun _ => pv 0) (je_v 1 fun _ => pv 1) (fun _ _ => rfl) (bs_ix hb).1 (bs_ix hb).2) (fun ow σ P H S => ?_) scRight.nd
  refine w_if S (jt_cmp (fun _ => op_eq) (rv_eq (kb_scal _ _)) (je_v 3 fun _ => pv 3) je_s (nomark _)) (fun h P H S => ?_) (fun h P H S => w_nil ?_)
  · rw [kb_up] at h
    have e : b = .up := by simpa using h
    refine w_ret S (je_catT (je_tup K (ja_cons je_s ja_nil)) ((je_slT (je_v 0 fun _ => pv 0) (jo_e (je_add (je_v 1 fun _ => pv 1) je_i)) jo_no).is ec) (sl [.up] (by simp))) fun v P H S r => kQ v P H S.gr (fin [.up] (by rw [e]; rfl) r)
  rw [kb_up] at h
  have e : b ≠ .up := by simpa using h
  refine w_if S (jt_cmp (fun _ => op_eq) (rv_eq (kb_scal _ _)) (je_v 3 fun _ => pv 3) je_s (nomark _)) (fun h P H S => ?_) (fun h P H S => w_nil ?_)
  · rw [kb_dn] at h
    have e : b = .dn := by simpa using h
    refine w_ret S (je_catT (je_call (fun _ => cF _ hr) j (ja_cons (je_v 2 fun _ => pv 2) ja_nil) trivial) ((je_slT (je_v 0 fun _ => pv 0) (jo_e (je_add (je_v 1 fun _ => pv 1) je_i)) jo_no).is ec) (sl _ (fin_len j))) fun v P H S r => kQ v P H S.gr (fin (M74.fin j) (by rw [e]; rfl) r)
  rw [kb_dn] at h
  have e2 : b ≠ .dn := by simpa using h
  cases b with
  | up => exact absurd rfl e
  | dn => exact absurd rfl e2
  | n k =>
    have hj : j < k := hok _ hb
    have ea : pI ((k : Int) - 1 - (j : Int)) = pI ((k - 1 - j : Nat) : Int) := congrArg (fun z => pI z) (by omega)
    refine w_ret S (je_catT (je_call (fun _ => cF _ hr) (k - 1 - j) (ja_cons ((je_sub (je_sub (je_v 3 fun _ => pv 3) je_i) (je_v 2 fun _ => pv 2)).is ea) ja_nil) trivial) ((je_slT (je_v 0 fun _ => pv 0) (jo_e (je_add (je_v 1 fun _ => pv 1) je_i)) jo_no).is ec) (sl _ (fin_len _))) fun v P H S r => kQ v P H S.gr (fin (M74.fin (k - 1 - j)) rfl r)
/-! ### _form -/
abbrev sForm : Stmt := top 26
def lastV (acc : Ln) : V := match acc.getLast? with
  | none => .str ""
  | some b => kb b
theorem kb_flat (b : Blk) : flatV (kb b) = true := by cases b <;> rfl
theorem last_flat (acc : Ln) : flatV (lastV acc) = true := by
  unfold lastV
  cases acc.getLast? with
  | none => rfl
  | some b => exact kb_flat b
theorem last_scal (acc : Ln) (s : Str) : scal (lastV acc) (.str s) = true := by
  unfold lastV
  cases acc.getLast? with
  | none => rfl
  | some b => exact kb_scal b s
def inE (x : V) : Bool := inV x [.str "up", .str "down"]
theorem inE_kb (b : Blk) : inE (kb b) = isE b := by
  cases b with
  | n k => rfl
  | up => decide +kernel
  | dn => decide +kernel
theorem END_flat : ([.str "up", .str "down"] : List V).all flatV = true := rfl
theorem kb_n {b : Blk} (h1 : b ≠ .up) (h2 : b ≠ .dn) : ∃ k, b = .n k := by
  cases b with
  | n k => exact ⟨k, rfl⟩
  | up => exact absurd rfl h1
  | dn => exact absurd rfl h2
/-- one turn of _form's loop, by its tests -/
theorem ps1 {acc : Ln} {b : Blk} (h : (decide (kb b = .str "down") || (decide (kb b = .str "up") && (decide (lastV acc = .str "") || inE (lastV acc)))) = true) : pstep acc b = acc ++ [b] := by
  rw [kb_dn, kb_up] at h
  unfold pstep
  cases hl : acc.getLast? with
  | none => cases b <;> first | rfl | simp at h
  | some c =>
    cases b with
    | dn => rfl
    | n k => simp at h
    | up =>
      cases c with
      | n m => simp [lastV, hl, kb, inE_kb] at h; simp [inE, inV, eqV] at h
      | up => rfl
      | dn => rfl
theorem ps2 {acc : Ln} {b : Blk} (h : (decide (kb b = .str "down") || (decide (kb b = .str "up") && (decide (lastV acc = .str "") || inE (lastV acc)))) = false) (h2 : decide (kb b = .str "up") = true) : b = .up ∧ ∃ m, acc.getLast? = some (.n m) := by
  rw [kb_up] at h2
  have e : b = .up := by simpa using h2
  subst e
  refine ⟨rfl, ?_⟩
  cases hl : acc.getLast? with
  | none => simp [lastV, hl, kb] at h
  | some c =>
    cases c with
    | n m => exact ⟨m, rfl⟩
    | up =>
      simp only [lastV, hl] at h
      exact absurd h (by decide +kernel)
    | dn =>
      simp only [lastV, hl] at h
      exact absurd h (by decide +kernel)
theorem ps3 {acc : Ln} {b : Blk} (h : (decide (kb b = .str "down") || (decide (kb b = .str "up") && (decide (lastV acc = .str "") || inE (lastV acc)))) = false) (h2 : decide (kb b = .str "up") = false) : ∃ k, b = .n k := by
  rw [kb_up] at h2
  rw [kb_dn, kb_up] at h
  refine kb_n (by simpa using h2) ?_
  simp at h
  exact h.1
theorem ps4 {acc : Ln} {k : Nat} (h : (decide (lastV acc = .str "") || decide (lastV acc = .str "up")) = true) : pstep acc (.n k) = acc ++ [.n k] := by
  unfold pstep
  cases hl : acc.getLast? with
  | none => rfl
  | some c =>
    cases c with
    | n m => simp [lastV, hl, kb] at h
    | up => rfl
    | dn =>
      simp only [lastV, hl] at h
      exact absurd h (by decide +kernel)
theorem ps5 {acc : Ln} (h : (decide (lastV acc = .str "") || decide (lastV acc = .str "up")) = false) (h2 : (!decide (lastV acc = .str "down")) = true) : ∃ m, acc.getLast? = some (.n m) := by
  cases hl : acc.getLast? with
  | none => simp [lastV, hl] at h
  | some c =>
    cases c with
    | n m => exact ⟨m, rfl⟩
    | up => simp [lastV, hl, kb] at h
    | dn => simp [lastV, hl, kb] at h2
theorem ps6 {acc : Ln} {k : Nat} (h : (decide (lastV acc = .str "") || decide (lastV acc = .str "up")) = false) (h2 : (!decide (lastV acc = .str "down")) = false) : pstep acc (.n k) = acc := by
  unfold pstep
  cases hl : acc.getLast? with
  | none => simp [lastV, hl] at h
  | some c =>
    cases c with
    | n m => simp [lastV, hl, kb] at h2
    | up => simp [lastV, hl, kb] at h
    | dn => rfl
theorem set_last {acc : Ln} {b c : Blk} (h : acc.getLast? = some c) : (acc.map pK).set (acc.length - 1) (pK b) = (acc.dropLast ++ [b]).map pK := by
  have e := last_split h
  have hl : acc.length = acc.dropLast.length + 1 := by rw [List.length_dropLast]; have := List.length_pos_of_mem (List.mem_of_getLast? h); omega
  conv => lhs; rw [e]
  rw [List.map_append, List.map_append, show (acc.dropLast ++ [c]).length - 1 = (acc.dropLast.map pK).length by simp, List.set_append_right _ _ (Nat.le_refl _)]
  simp
theorem ix_last {acc : Ln} {c : Blk} (h : acc.getLast? = some c) : ixN (acc.map pK).length (-1) = some (acc.length - 1) ∧ (acc.map pK)[acc.length - 1]? = some (pK c) := by
  have hl : 0 < acc.length := List.length_pos_of_mem (List.mem_of_getLast? h)
  refine ⟨ixN_neg (by decide) (by rw [List.length_map]; omega) (by rw [List.length_map]; omega), ?_⟩
  rw [List.getElem?_map, ← List.getLast?_eq_getElem?, h]
  rfl
abbrev nForm : List Str := ["blocks", "most", "merged", "block", "last"]
theorem scForm : FnScope nForm ["blocks", "most"] (defScope sForm) := ⟨rfl, rfl, rfl, by decide +kernel, rfl, by decide +kernel, by decide +kernel⟩
abbrev spForm (K : PySem.W.Frag) : Sp := spF (fun a : Ln × Nat => [pBs K a.1, pI a.2]) (fun a => a.1.length ≤ 1000) (fun a => pBs K (form a.2 a.1))
theorem pstep_len (acc : Ln) (b : Blk) : (pstep acc b).length ≤ acc.length + 1 := by
  unfold pstep
  split <;> simp <;> omega
theorem fold_len : ∀ (a acc : Ln), (a.foldl pstep acc).length ≤ acc.length + a.length
  | [], acc => by simp
  | b :: a, acc => by
    rw [List.foldl_cons, List.length_cons]
    have := fold_len a (pstep acc b)
    have := pstep_len acc b
    omega
theorem mrg_len (a : Ln) : (mrg a).length ≤ a.length := by have := fold_len a []; simpa [mrg] using this
theorem form_len (m : Nat) (a : Ln) : (form m a).length ≤ a.length := by
  unfold form
  split
  · exact Nat.le_trans (List.length_filter_le _ _) (mrg_len a)
  · rw [List.length_map]; exact mrg_len a
theorem mrg_snoc (a : Ln) (b : Blk) : mrg (a ++ [b]) = pstep (mrg a) b := by simp [mrg, List.foldl_append]
theorem ok_form (T : Cst K mg) {f : Addr} {fd : FuncData} (F : FnP K "_form" sForm f fd) : FnOk P w K mg base CX0 2 f fd ["blocks", "most"] (spForm K) := by
  refine fnF 1 F scForm (fun _ => rfl) fun cdv A outer s H0 Q E hr P0 a σ pre S kQ => ?_
  obtain ⟨bs, most⟩ := a
  dsimp only at pre S kQ
  obtain ⟨aE, hE, tE⟩ := T.END
  refine w_asgF 2 S (jf_lst ja_nil) (fun ow σ P H S => ?_) scForm.nd
  refine w_for S (ji_tup (K := K) (je_v 0 fun _ => pv 0)) (fun y => jg_name 3 fun _ => pg_name scForm.nd rfl (.inl rfl)) (fun pre => [.pr (pBs K bs), .pr (pI most), .ow (oL ((mrg pre).map pK)), .un, .un]) (Wk.refl _) (by simp) ?_ ?_
  · intro xs' P0' H0' _ pre b post hbs ow σ P H S
    have hpl : (mrg pre).length + 1 < 10000 := by
      have := mrg_len pre
      have : pre.length ≤ bs.length := by rw [hbs]; simp
      omega
    have nx : ∀ {ow : List Addr} {σ : L2.St} {P H : Hp} (acc : Ln) {v v' : Sl} {l : List Pr}, pstep (mrg pre) b = acc → S8 xs' P0' H0' ow σ P H [.pr (pBs K bs), .pr (pI most), .ow (oL l), v, v'] → l = acc.map pK → At8 xs' P0' H0' [.pr (pBs K bs), .pr (pI most), .ow (oL ((mrg (pre ++ [b])).map pK)), .un, .un] σ H := fun acc _ _ _ e S hl => by
      rw [mrg_snoc, e, ← hl]
      exact at8 S (.keep (.keep (.keep (.drop (.drop .nil)))))
    -- last = merged[-1] if merged else ''
    refine w_asg 4 (R := pV (lastV (mrg pre))) S (je_if (jt_ownB (K := K) 2 fun _ => pv 2) (fun h => ?_) (fun h => ?_)) (fun ow σ P H S => ?_) scForm.nd
    · obtain ⟨c, hc⟩ : ∃ c, (mrg pre).getLast? = some c := by
        cases q : (mrg pre).getLast? with
        | none => rw [List.getLast?_eq_none_iff] at q; rw [q] at h; exact absurd h (by decide)
        | some c => exact ⟨c, rfl⟩
      refine (je_ixO (K := K) 2 (fun _ => pv 2) (je_neg je_i) rfl rfl (fun _ _ => rfl) (ix_last hc).1 (ix_last hc).2).is ?_
      unfold lastV
      rw [hc]
    · have : mrg pre = [] := by simpa using h
      rw [this]
      exact je_s
    refine w_if S (jt_w (jw_or (jt_cmp (fun _ => op_eq) (rv_eq (kb_scal _ _)) (je_v 3 fun _ => pv 3) je_s (nomark _)) fun _ => jw_or1 (jt_w (jw_and (jt_cmp (fun _ => op_eq) (rv_eq (kb_scal _ _)) (je_v 3 fun _ => pv 3) je_s (nomark _)) fun _ => jw_and1 (jt_w (jw_or (jt_cmp (fun _ => op_eq) (rv_eq (last_scal _ _)) (je_v 4 fun _ => pv 4) je_s (nomark _)) fun _ => jw_or1 (jt_cmp (fun _ => op_in_seq) (rv_isC (K := K) (last_flat _) END_flat) (je_v 4 fun _ => pv 4) (je_END (fun _ => hE) tE) rfl))))))) (fun h P H S => ?_) (fun h P H S => ?_)
    · exact w_app 2 S (fun _ => pv 2) (je_v 3 fun _ => pv 3) rfl rfl (le_line (by rw [List.length_map]; omega)) (fun ow P H S => w_nil (w_nil (nx _ (ps1 h) S (by rw [List.map_append]; rfl))))
    · refine w_if S (jt_cmp (fun _ => op_eq) (rv_eq (kb_scal _ _)) (je_v 3 fun _ => pv 3) je_s (nomark _)) (fun h2 P H S => ?_) (fun h2 P H S => ?_)
      · obtain ⟨rfl, m, hm⟩ := ps2 h h2
        exact w_setO 2 S (je_v 3 fun _ => pv 3) (fun _ => pv 2) (je_neg je_i) rfl (ix_last hm).1 (fun ow P H S => w_nil (w_nil (w_nil (nx ((mrg pre).dropLast ++ [.up]) (by unfold pstep; rw [hm]) S (set_last hm)))))
      · obtain ⟨k, rfl⟩ := ps3 h h2
        refine w_if S (jt_w (jw_or (jt_cmp (fun _ => op_eq) (rv_eq (last_scal _ _)) (je_v 4 fun _ => pv 4) je_s (nomark _)) fun _ => jw_or1 (jt_cmp (fun _ => op_eq) (rv_eq (last_scal _ _)) (je_v 4 fun _ => pv 4) je_s (nomark _)))) (fun h3 P H S => ?_) (fun h3 P H S => ?_)
        · exact w_app 2 S (fun _ => pv 2) (je_v 3 fun _ => pv 3) rfl rfl (le_line (by rw [List.length_map]; omega)) (fun ow P H S => w_nil (w_nil (w_nil (w_nil (nx _ (ps4 h3) S (by rw [List.map_append]; rfl))))))
        · refine w_if S (jt_cmp (fun _ => op_ne) (rv_ne (last_scal _ _)) (je_v 4 fun _ => pv 4) je_s (nomark _)) (fun h4 P H S => ?_) (fun h4 P H S => w_nil (w_nil (w_nil (w_nil (w_nil (nx _ (ps6 h3 h4) S rfl))))))
          obtain ⟨m, hm⟩ := ps5 h3 h4
          have el : lastV (mrg pre) = .int (m : Int) := by unfold lastV; rw [hm]; rfl
          rw [el] at S
          exact w_setO 2 (R := pK (.n (m + k))) S (JE.is (je_add (je_v 4 fun _ => pv 4) (je_v 3 fun _ => pv 3)) rfl) (fun _ => pv 2) (je_neg je_i) rfl (ix_last hm).1 (fun ow P H S => w_nil (w_nil (w_nil (w_nil (w_nil (nx ((mrg pre).dropLast ++ [.n (m + k)]) (by unfold pstep; rw [hm]) S (set_last hm)))))))
  · intro ow σ P H S
    obtain ⟨ow, P, S, _, _⟩ := S.still (i := 2) rfl
    have hz : (mrg bs).length ≤ 1000 := Nat.le_trans (mrg_len bs) pre
    refine w_if S (jt_cmp (fun _ => op_eq) rv_eqI (je_v 1 fun _ => pv 1) je_i (nomark _)) (fun h P H S => ?_) (fun h P H S => w_nil ?_)
    · have e : most = 0 := by simpa using h
      refine w_ret S (je_tupleL (K := K) (JF.je (jf_lc [("block", 3)] _ (ji_list (K := K) (je_v 2 fun _ => pv 2)) (fun _ => blkOk_by (N := nForm) (sc := defScope sForm) (by decide +kernel)) (Wk.refl _) rfl (fun y => jg_name 3 fun _ => pg_name scForm.nd rfl (.inl rfl)) (by simp) (by simp [ini]) isE pK
        (fun b _ => JTs.is (jts_one (jt_cmp (fun _ => op_in_seq) (rv_isC (K := K) (kb_flat b) END_flat) (je_v 3 fun _ => pv 3) (je_END (fun _ => hE) tE) rfl)) (inE_kb b)) (fun b _ _ => je_v 3 fun _ => pv 3) (le_line (by omega)) (fun _ => scForm.nd))) (le_line (by rw [List.length_map]; exact Nat.le_trans (List.length_filter_le _ _) (by omega))) (fun _ => T.bt.tuple)) fun v P H S r => kQ v P H S.gr ?_
      show (pBs K (form most bs)).p P v
      unfold form
      rw [if_pos e]
      exact r
    · have e : most ≠ 0 := by simpa using h
      refine w_ret S (je_tupleL (K := K) (JF.je (jf_lc [("block", 3)] _ (ji_list (K := K) (je_v 2 fun _ => pv 2)) (fun _ => blkOk_by (N := nForm) (sc := defScope sForm) (by decide +kernel)) (Wk.refl _) rfl (fun y => jg_name 3 fun _ => pg_name scForm.nd rfl (.inl rfl)) (by simp) (by simp [ini]) (fun _ => true) (fun b => pK (cutB most b))
        (fun b _ => jts_nil) (fun b _ _ => je_if (JT.is (jt_cmp (fun _ => op_in_seq) (rv_isC (K := K) (kb_flat b) END_flat) (je_v 3 fun _ => pv 3) (je_END (fun _ => hE) tE) rfl) (inE_kb b)) (fun q => ?_) (fun q => ?_)) (le_line (by omega)) (fun _ => scForm.nd))) (le_line (by rw [List.length_map]; exact Nat.le_trans (List.length_filter_le _ _) (by omega))) (fun _ => T.bt.tuple)) fun v P H S r => kQ v P H S.gr ?_
      · cases b with
        | n k => exact absurd q (by simp [isE])
        | up => exact je_v 3 fun _ => pv 3
        | dn => exact je_v 3 fun _ => pv 3
      · cases b with
        | n k => exact JE.is (je_min2 (je_v 3 fun _ => pv 3) (je_v 1 fun _ => pv 1) (fun _ => T.bt.min)) (congrArg (fun z => pI z) (by omega))
        | up => exact absurd q (by decide)
        | dn => exact absurd q (by decide)
      · show (pBs K (form most bs)).p P v
        unfold form
        rw [if_neg e]
        have : ((mrg bs).filter fun _ => true) = mrg bs := List.filter_eq_self.mpr (fun _ _ => rfl)
        rw [this] at r
        rw [pBs, List.map_map]
        exact r
/-! ### _halves -/
abbrev sHalves : Stmt := top 27
abbrev pHv (K : PySem.W.Frag) (p : Ln × Ln) : Pr := pT K [pBs K p.1, pBs K p.2]
abbrev spHalves (K : PySem.W.Frag) : Sp := spF (fun a : Ln × Nat × Nat × Nat => [pBs K a.1, pI a.2.1, pI a.2.2.1, pI a.2.2.2]) (fun a => a.1.length ≤ 100 ∧ a.2.1 < a.1.length ∧ ∀ b, a.1[a.2.1]? = some b → okJ b a.2.2.1) (fun a => pHv K (hv a.2.2.2 a.1 a.2.1 a.2.2.1))
theorem scHalves : FnScope ["blocks", "index", "number", "most"] ["blocks", "index", "number", "most"] (defScope sHalves) := ⟨rfl, rfl, rfl, by decide +kernel, rfl, by decide +kernel, by decide +kernel⟩
theorem bl_len (b : Blk) (j : Nat) : (bl b j).length ≤ 1 := by cases b <;> first | exact fin_len _ | exact Nat.le_refl _
theorem br_len (b : Blk) (j : Nat) : (br b j).length ≤ 1 := by cases b <;> first | exact fin_len _ | exact Nat.le_refl _
theorem lf_len (bs : Ln) (i j : Nat) : (lf bs i j).length ≤ bs.length + 1 := by
  unfold lf
  rw [List.length_append, List.length_take]
  cases bs[i]? with
  | none => simp; omega
  | some b => have := bl_len b j; simp only; omega
theorem rg_len (bs : Ln) (i j : Nat) : (rg bs i j).length ≤ bs.length + 1 := by
  unfold rg
  rw [List.length_append, List.length_drop]
  cases bs[i]? with
  | none => simp; omega
  | some b => have := br_len b j; simp only; omega
theorem ok_halves {f : Addr} {fd : FuncData} (F : FnP K "_halves" sHalves f fd) (cF : ∀ A : Around, Room 2 A → Cal P w K mg base A "_form" (spForm K)) (cL : ∀ A : Around, Room 2 A → Cal P w K mg base A "left_blocks" (spLeft K)) (cR : ∀ A : Around, Room 2 A → Cal P w K mg base A "right_blocks" (spRight K)) :
    FnOk P w K mg base CX0 3 f fd ["blocks", "index", "number", "most"] (spHalves K) := by
  refine fnF 2 F scHalves (fun _ => rfl) fun cdv A outer s H0 Q E hr P0 a σ pre S kQ => ?_
  obtain ⟨bs, i, j, most⟩ := a
  obtain ⟨hl, hi, hok⟩ := pre
  dsimp only at hl hi hok S kQ
  refine w_ret S (je_tup K (ja_cons (je_call (fun _ => cF _ hr) (lf bs i j, most) (ja_cons (je_call (fun _ => cL _ hr) (bs, i, j) (ja_cons (je_v 0 fun _ => pv 0) (ja_cons (je_v 1 fun _ => pv 1) (ja_cons (je_v 2 fun _ => pv 2) ja_nil))) ⟨by dsimp only; omega, hi⟩) (ja_cons (je_v 3 fun _ => pv 3) ja_nil)) (by have := lf_len bs i j; dsimp only; omega))
    (ja_cons (je_call (fun _ => cF _ hr) (rg bs i j, most) (ja_cons (je_call (fun _ => cR _ hr) (bs, i, j) (ja_cons (je_v 0 fun _ => pv 0) (ja_cons (je_v 1 fun _ => pv 1) (ja_cons (je_v 2 fun _ => pv 2) ja_nil))) ⟨by dsimp only; omega, hi, hok⟩) (ja_cons (je_v 3 fun _ => pv 3) ja_nil)) (by have := rg_len bs i j; dsimp only; omega)) ja_nil))) fun v P H S r => kQ v P H S.gr r
end
end K74
/-! law_k74_line_rounds: numbers for forms. -/
namespace K74
open PySem PySem.Spec PyProof.Rows L2 Ly M74
/-! ### forms as keys -/
def nb : Blk → NestedKey
  | .n k => .num k
  | .up => .text "up"
  | .dn => .text "down"
def nfk (f : Ln) : List NestedKey := f.map nb
abbrev nf (f : Ln) : NestedKey := .tup (nfk f)
theorem nb_inj {a b : Blk} (h : nb a = nb b) : a = b := by
  cases a <;> cases b <;> simp only [nb] at h <;> first | rfl | (injection h with h; first | (congr 1; omega) | exact absurd h (by decide)) | exact absurd h (by simp)
theorem nfk_inj : ∀ {f g : Ln}, nfk f = nfk g → f = g
  | [], [], _ => rfl
  | [], _ :: _, h => by simp [nfk] at h
  | _ :: _, [], h => by simp [nfk] at h
  | a :: f, b :: g, h => by
    simp only [nfk, List.map_cons, List.cons.injEq] at h
    rw [nb_inj h.1, nfk_inj (f := f) (g := g) h.2]
theorem nf_inj {f g : Ln} (h : nf f = nf g) : f = g := nfk_inj (by injection h)
theorem nb_depth (b : Blk) : (nb b).depth = 0 := by cases b <;> rfl
theorem nf_depth (f : Ln) : (nf f).depth ≤ 8 := by
  have key : ∀ f : Ln, NestedKey.depthAll (nfk f) = 0 := by
    intro f
    induction f with
    | nil => rfl
    | cons b f ih =>
      show max (nb b).depth (NestedKey.depthAll (nfk f)) = 0
      rw [nb_depth, ih]
      rfl
  show NestedKey.depthAll (nfk f) + 1 ≤ 8
  rw [key]
  decide
theorem nk_kb (P : Hp) (b : Blk) : NK P (nb b) (kb b) := by
  cases b with
  | n k => exact .num _
  | up => exact .text _
  | dn => exact .text _
theorem pbs_nf {K : PySem.W.Frag} {f : Ln} {P : Hp} {v : V} (h : (pBs K f).p P v) : (pNK (nf f)).p P v := by
  obtain ⟨a, xs, rfl, h2, h3, h4⟩ := h
  refine .tup h2 ?_
  clear h2 h4
  induction f generalizing xs with
  | nil => cases h3; exact .nil
  | cons b f ih => cases h3 with
    | cons r h3 =>
      rw [show _ = _ from r]
      exact .cons (nk_kb P b) (ih _ h3)
theorem nf_pbs {K : PySem.W.Frag} {f : Ln} (hl : f.length ≤ 100000) {P : Hp} {v : V} (h : (pNK (nf f)).p P v) : (pBs K f).p P v := by
  cases h with
  | @tup a vs _ h1 h2 =>
    have key : ∀ (f : Ln) (vs : List V), NKs P (nfk f) vs → PL P (f.map pK) vs := by
      intro f
      induction f with
      | nil => intro vs h; cases h; exact .nil
      | cons b f ih =>
        intro vs h
        cases h with
        | cons h1 h2 =>
          refine .cons ?_ (ih _ h2)
          show _ = kb b
          cases b <;> (cases h1; rfl)
    have r := key f vs h2
    exact ⟨a, vs, rfl, h1, r, by rw [r.len, List.length_map]; exact le_line hl⟩
/-- a dict over forms -/
def dcE (fs : List Ln) (v : Ln → Pr) : List (NestedKey × Pr) := fs.map fun f => (nf f, v f)
theorem at_dc {fs : List Ln} {v : Ln → Pr} {f : Ln} (h : f ∈ fs) : atE (dcE fs v) (nf f) = some (v f) := by
  unfold atE dcE
  induction fs with
  | nil => exact absurd h (by simp)
  | cons g fs ih =>
    rw [List.map_cons, List.find?_cons]
    by_cases e : g = f
    · subst e; simp
    · have n : ¬ (nf g = nf f) := fun z => e (nf_inj z)
      simp only [n, decide_false]
      exact ih ((List.mem_cons.mp h).elim (fun z => absurd z.symm e) id)
theorem at_dc_no {fs : List Ln} {v : Ln → Pr} {f : Ln} (h : f ∉ fs) : atE (dcE fs v) (nf f) = none := by
  unfold atE dcE
  induction fs with
  | nil => rfl
  | cons g fs ih =>
    rw [List.map_cons, List.find?_cons]
    have e : ¬ g = f := fun z => h (by simp [z])
    have n : ¬ (nf g = nf f) := fun z => e (nf_inj z)
    simp only [n, decide_false]
    exact ih fun z => h (List.mem_cons_of_mem _ z)
theorem put_dc {fs : List Ln} {v : Ln → Pr} {f : Ln} : putE (dcE fs v) (nf f) (v f) = dcE (addD fs f) v := by
  unfold putE addD
  by_cases h : f ∈ fs
  · rw [at_dc h, if_pos h]
    simp only [Option.isSome_some, if_true]
    unfold dcE
    rw [List.map_map]
    refine List.map_congr_left fun g hg => ?_
    show (if nf g = nf f then (nf g, v f) else (nf g, v g)) = (nf g, v g)
    by_cases e : nf g = nf f
    · rw [if_pos e, nf_inj e]
    · rw [if_neg e]
  · rw [at_dc_no h, if_neg h]
    simp [dcE]
theorem putAll_dc (v : Ln → Pr) : ∀ (us fs : List Ln), putAll nfk v (dcE fs v) us = dcE (us.foldl addD fs) v
  | [], fs => rfl
  | f :: us, fs => by
    show putAll nfk v (putE (dcE fs v) (nf f) (v f)) us = _
    rw [put_dc, putAll_dc v us, List.foldl_cons]
theorem putAll_ded (v : Ln → Pr) (us : List Ln) : putAll nfk v [] us = dcE (ded us) v := putAll_dc v us []
theorem room16 {k : Nat} {A : Around} (h : Room k A) : A.units + 16 < cLine := by have := h.units; omega
section
variable {P : Program} {w : World} {K : PySem.W.Frag} {mg : Str → Option Value} {base : Heap}
/-! ### _numbers_of -/
abbrev sNumOf : Stmt := top 28
abbrev spNumOf (w : World) (K : PySem.W.Frag) : Sp := spF (fun a : (Ln × Ln) × List Ln × (Ln → Nat) => [pHv K a.1, pD w (dcE a.2.1 fun f => pI (a.2.2 f))]) (fun a => a.1.1 ∈ a.2.1 ∧ a.1.2 ∈ a.2.1) (fun a => pP2 K (a.2.2 a.1.1, a.2.2 a.1.2))
theorem scNumOf : FnScope ["pair", "numbers"] ["pair", "numbers"] (defScope sNumOf) := ⟨rfl, rfl, rfl, by decide +kernel, rfl, by decide +kernel, by decide +kernel⟩
theorem ok_numOf {f : Addr} {fd : FuncData} (F : FnP K "_numbers_of" sNumOf f fd) : FnOk P w K mg base CX0 1 f fd ["pair", "numbers"] (spNumOf w K) := by
  refine fnF 0 F scNumOf (fun _ => rfl) fun cdv A outer s H0 Q E hr P0 a σ pre S kQ => ?_
  obtain ⟨⟨fl, fr⟩, fs, g⟩ := a
  obtain ⟨h1, h2⟩ := pre
  dsimp only at h1 h2 S kQ
  refine w_ret S (je_tup K (ja_cons (je_getD (w := w) (je_v 1 fun _ => pv 1) (JE.to (je_ixT (K := K) (je_v 0 fun _ => pv 0) je_i (fun _ _ => rfl) (j := 0) rfl rfl) fun _ _ => pbs_nf) (at_dc h1) (nf_depth fl) (fun _ => room16 hr) (fun _ _ => rfl))
    (ja_cons (je_getD (w := w) (je_v 1 fun _ => pv 1) (JE.to (je_ixT (K := K) (je_v 0 fun _ => pv 0) je_i (fun _ _ => rfl) (j := 1) rfl rfl) fun _ _ => pbs_nf) (at_dc h2) (nf_depth fr) (fun _ => room16 hr) (fun _ _ => rfl)) ja_nil))) fun v P H S r => kQ v P H S.gr r
/-! ### _enough_places -/
abbrev sPlc : Stmt := top 29
abbrev nPlc : List Str := ["blocks", "most", "places", "index", "block", "number"]
abbrev spPlc (K : PySem.W.Frag) : Sp := spF (fun a : Ln × Nat => [pBs K a.1, pI a.2]) (fun a => a.1.length ≤ 50 ∧ a.2 ≤ 1000 ∧ ∀ k, Blk.n k ∈ a.1 → k ≤ 1000) (fun a => pL ((plc a.2 a.1).map (pP2 K)))
theorem scPlc : FnScope nPlc ["blocks", "most"] (defScope sPlc) := ⟨rfl, rfl, rfl, by decide +kernel, rfl, by decide +kernel, by decide +kernel⟩
def plcP (most : Nat) (ys : List (Nat × Blk)) : List NP := ys.flatMap fun y => (spotsOf most y.2).map fun j => (y.1, j)
theorem spots_len {most : Nat} {b : Blk} (h1 : most ≤ 1000) (h2 : ∀ k, b = .n k → k ≤ 1000) : (spotsOf most b).length ≤ 1001 := by
  cases b with
  | n k =>
    have := h2 k rfl
    exact Nat.le_trans (List.length_filter_le _ _) (by simp; omega)
  | up => simp [spotsOf]; omega
  | dn => simp [spotsOf]; omega
theorem ok_plc (T : Cst K mg) {f : Addr} {fd : FuncData} (F : FnP K "_enough_places" sPlc f fd) : FnOk P w K mg base CX0 1 f fd ["blocks", "most"] (spPlc K) := by
  refine fnF 0 F scPlc (fun _ => rfl) fun cdv A outer s H0 Q E hr P0 a σ pre S kQ => ?_
  obtain ⟨bs, most⟩ := a
  obtain ⟨hl, hm, hk⟩ := pre
  dsimp only at hl hm hk S kQ
  obtain ⟨aE, hE, tE⟩ := T.END
  refine w_asgF 2 S (jf_lst ja_nil) (fun ow σ P H S => ?_) scPlc.nd
  refine w_for S (ji_enumT (K := K) (je_v 0 fun _ => pv 0) fun _ => T.bt.enumerate) (fun y => jg_tup2 (K := K) (jg_name 3 fun _ => pg_name scPlc.nd rfl (by first | exact .inl rfl | exact .inr rfl)) (jg_name 4 fun _ => pg_name scPlc.nd rfl (by first | exact .inl rfl | exact .inr rfl))) (fun pre => [.pr (pBs K bs), .pr (pI most), .ow (oL ((plcP most pre).map (pP2 K))), .un, .un, .un]) (Wk.refl _) (by simp) ?_ ?_
  · intro xs' P0' H0' _ pre y post hys ow σ P H S
    obtain ⟨i, b⟩ := y
    have hlen : pre.length ≤ 50 := by
      have h1 : pre.length ≤ (idx bs).length := by rw [hys]; simp
      rw [idx_len] at h1
      omega
    have hb : ∀ k, b = .n k → k ≤ 1000 := fun k e => by
      have hm' : (i, b) ∈ idx bs := by rw [hys]; simp
      have q := List.mem_of_getElem? (mem_idx.mp hm')
      exact hk k (e ▸ q)
    have hpre : (plcP most pre).length ≤ pre.length * 1001 := by
      have key : ∀ pre : List (Nat × Blk), (∀ y ∈ pre, y ∈ idx bs) → (plcP most pre).length ≤ pre.length * 1001 := by
        intro pre
        induction pre with
        | nil => intro _; simp [plcP]
        | cons y pre ih =>
          intro h
          have h1 := ih fun z hz => h z (List.mem_cons_of_mem _ hz)
          have h2 := spots_len (b := y.2) hm fun k e => hk k (e ▸ List.mem_of_getElem? (mem_idx.mp (h y (by simp))))
          unfold plcP at h1 ⊢
          rw [List.flatMap_cons, List.length_append, List.length_map, List.length_cons]
          omega
      exact key pre fun z hz => by rw [hys]; simp [hz]
    have fin : ∀ {σ : L2.St} {ow : List Addr} {P H : Hp} {l : List Pr} {v v' : Sl}, S8 xs' P0' H0' ow σ P H [.pr (pBs K bs), .pr (pI most), .ow (oL l), v, v', .un] → l = (plcP most pre).map (pP2 K) ++ ((spotsOf most b).map fun j => (i, j)).map (pP2 K) →
        At8 xs' P0' H0' [.pr (pBs K bs), .pr (pI most), .ow (oL ((plcP most (pre ++ [(i, b)])).map (pP2 K))), .un, .un, .un] σ H := fun S e => by
      have : (plcP most (pre ++ [(i, b)])).map (pP2 K) = (plcP most pre).map (pP2 K) ++ ((spotsOf most b).map fun j => (i, j)).map (pP2 K) := by
        unfold plcP
        rw [List.flatMap_append, List.map_append]
        simp
      rw [this, ← e]
      exact at8 S (.keep (.keep (.keep (.drop (.drop (.keep .nil))))))
    have hsz : (plcP most pre).length + (spotsOf most b).length ≤ 100000 := by
      have := spots_len hm hb
      omega
    refine w_if S (JT.is (jt_cmp (fun _ => op_in_seq) (rv_isC (K := K) (kb_flat b) END_flat) (je_v 4 fun _ => pv 4) (je_END (fun _ => hE) tE) rfl) (inE_kb b)) (fun q P H S => ?_) (fun q P H S => ?_)
    · have e : spotsOf most b = List.range (most + 1) := by cases b <;> first | rfl | exact absurd q (by simp [isE])
      have em : ((most : Int) + 1).toNat = most + 1 := by omega
      refine w_ext (Ss := ((spotsOf most b).map fun j => (i, j)).map (pP2 K)) 2 S (fun _ => pv 2) ((JF.je (jf_lc [("number", 5)] [.pr (pBs K bs), .pr (pI most), .un, .pr (pI i), .pr (pK b), .un] (ji_range (je_add (je_v 1 fun _ => pv 1) je_i) (by omega) (by omega) (hm := fun _ => T.bt.range)) (fun _ => blkOk_by (N := nPlc) (sc := defScope sPlc) (by decide +kernel)) (.keep (.keep (.drop (.keep (.keep (.keep .nil)))))) rfl
        (fun y => jg_name 5 fun _ => pg_name scPlc.nd rfl (.inl rfl)) (by simp) (by simp) (fun _ => true) (fun j => pP2 K (i, j)) (fun j _ => jts_nil) (fun j _ _ => JE.is (je_tup K (ja_cons (je_v 3 fun _ => pv 3) (ja_cons (je_v 5 fun _ => pv 5) ja_nil))) (by show pT K [pI i, pI (0 + (j : Int))] = _; rw [Int.zero_add])) (le_line (by rw [List.length_range]; omega)) (fun _ => scPlc.nd))).is ?_) rfl rfl (le_line (by rw [List.length_map, List.length_map, List.length_map]; exact hsz)) (fun ow P H S => w_nil (w_nil (fin S rfl)))
      rw [em, e, List.map_map, List.filter_eq_self.mpr (fun _ _ => rfl)]
      rfl
    · obtain ⟨k, rfl⟩ : ∃ k, b = .n k := by cases b <;> first | exact ⟨_, rfl⟩ | exact absurd q (by decide)
      have hk' := hb k rfl
      have em : ((k : Int)).toNat = k := by omega
      refine w_ext (Ss := ((spotsOf most (.n k)).map fun j => (i, j)).map (pP2 K)) 2 S (fun _ => pv 2) ((JF.je (jf_lc [("number", 5)] [.pr (pBs K bs), .pr (pI most), .un, .pr (pI i), .pr (pI k), .un] (ji_range (je_v 4 fun _ => pv 4) (by omega) (by omega) (hm := fun _ => T.bt.range)) (fun _ => blkOk_by (N := nPlc) (sc := defScope sPlc) (by decide +kernel)) (.keep (.keep (.drop (.keep (.keep (.keep .nil)))))) rfl
        (fun y => jg_name 5 fun _ => pg_name scPlc.nd rfl (.inl rfl)) (by simp) (by simp) (fun j => decide (j ≤ most) || decide (k - j ≤ most)) (fun j => pP2 K (i, j)) (fun j hj => JTs.is (jts_one (jt_w (jw_or (jt_cmp (fun _ => op_le) rv_I0 (je_v 5 fun _ => pv 5) (je_v 1 fun _ => pv 1) (nomark _)) fun _ => jw_or1 (jt_cmp (fun _ => op_le) rv_I0 (je_sub (je_v 4 fun _ => pv 4) (je_v 5 fun _ => pv 5)) (je_v 1 fun _ => pv 1) (nomark _))))) ?_)
        (fun j _ _ => JE.is (je_tup K (ja_cons (je_v 3 fun _ => pv 3) (ja_cons (je_v 5 fun _ => pv 5) ja_nil))) (by show pT K [pI i, pI (0 + (j : Int))] = _; rw [Int.zero_add])) (le_line (by rw [List.length_range]; omega)) (fun _ => scPlc.nd))).is ?_) rfl rfl (le_line (by rw [List.length_map, List.length_map, List.length_map]; exact hsz)) (fun ow P H S => w_nil (w_nil (fin S rfl)))
      · have hj' : j < k := by simpa using hj
        have e1 : decide ((0 : Int) + (j : Int) ≤ (most : Int)) = decide (j ≤ most) := decide_eq_decide.mpr (by omega)
        have e2 : decide ((k : Int) - (0 + (j : Int)) ≤ (most : Int)) = decide (k - j ≤ most) := decide_eq_decide.mpr (by omega)
        rw [e1, e2]
      · rw [em, List.map_map]
        rfl
  · intro ow σ P H S
    obtain ⟨ow, P, S, _, _⟩ := S.still (i := 2) rfl
    exact w_ret S (je_v 2 fun _ => pv 2) fun v P H S r => kQ v P H S.gr r
end
end K74
/-! A stretch of a body seen from its own beginning. -/
namespace Ly
open PySem PySem.Spec PyProof.Rows L2
section
variable {xs ys : List Addr} {P0 H0 : Hp} {ow ow' : List Addr} {σ σ2 : L2.St} {P H P2 H2 : Hp} {ss ss2 : List Sl} {O : Ow} {i : Nat}
theorem S8.backP (S : S8 xs P0 H0 ow σ P H ss) (S2 : S8 [] P H ow' σ2 P2 H2 ss2) : S8 xs P0 H0 ow' σ2 P2 H2 ss2 where
  p0 := S.p0.trans S2.p0
  ld := S2.ld
  h0 := fun b o hb e => S2.h0 b o (by simp) (S.h0 b o hb e)
  nw := fun b n e => S2.nw b (S.hh n) (S.nw b n e)
  ows := fun a ha => ⟨(S2.ows a ha).1, (S2.ows a ha).2.1, .inl (S.gone ((S2.ows a ha).2.2.elim id fun z => absurd z (by simp)))⟩
  xh := fun a ha => S2.hh (S.xh a ha)
  sl := S2.sl
/-- the one slot that owns something is told by its value alone -/
theorem S8.lend (S : S8 xs P0 H0 ow σ P H ss) (h : ss[i]? = some (.ow O)) (hno : ∀ v, noOw (ss.set i (.pr (pV v))) = true) : ∃ v fp, σ[i]? = some (some v) ∧ O.ok P H v fp ∧ (∀ a ∈ fp, a ∈ ow) ∧ S8 [] P H [] σ P H (ss.set i (.pr (pV v))) ∧
    ∀ (ow' : List Addr) (σ2 : L2.St) (P2 H2 : Hp) (ss2 : List Sl), S8 [] P H ow' σ2 P2 H2 ss2 → ss2[i]? = some (.pr (pV v)) → ∃ ow2, S8 xs P0 H0 ow2 σ2 P2 H2 (ss2.set i (.ow O)) := by
  obtain ⟨v, fp, ev, ok, sub, _⟩ := S.owned h
  have hσ : σ.set i (some v) = σ := by
    refine List.ext_getElem? fun j => ?_
    by_cases hj : i = j
    · subst hj
      rw [List.getElem?_set_self (List.getElem?_eq_some_iff.mp ev).1, ev]
    · rw [List.getElem?_set_ne hj]
  obtain ⟨ow1, S1⟩ := S.here.set h (R := pV v) (v := v) rfl
  rw [hσ] at S1
  have e1 := noOw_nil S1.sl (hno v)
  subst e1
  refine ⟨v, fp, ev, ok, sub, ⟨Same.refl _, S1.ld, fun _ _ _ e => e, fun _ _ e => e, fun a ha => absurd ha (by simp), fun a ha => absurd ha (by simp), S1.sl⟩, fun ow' σ2 P2 H2 ss2 S2 h2 => ?_⟩
  have S3 := S.backP S2
  obtain ⟨u, fq, e2, q2, sub2, put2⟩ := S3.sl.focus h2
  cases q2 with
  | pr r =>
    have er : _ = v := r
    subst er
    have keep : ∀ a ∈ fp, H2 a = H a := fun a ha => by
      cases e : H a with
      | none => exact absurd e (S.ows a (sub a ha)).2.1
      | some o => exact S2.h0 a o (by simp) e
    have ok2 := O.up S2.p0 keep ok
    have dis : ∀ a ∈ fp, a ∉ ow' := fun a ha z => by
      have n := (S2.ows a z).2.2
      rcases n with n | n
      · exact (S.ows a (sub a ha)).2.1 n
      · exact absurd n (by simp)
    obtain ⟨ow2, g2, m2⟩ := put2 P2 H2 fp (some _) (.ow O) (Same.refl _) (fun _ _ _ => rfl) (.ow ok2) (fun a ha => .inr (dis a ha))
    have hσ2 : ∀ {u : V}, σ2[i]? = some (some u) → σ2.set i (some u) = σ2 := fun {u} eu => by
      refine List.ext_getElem? fun j => ?_
      by_cases hj : i = j
      · subst hj
        rw [List.getElem?_set_self (List.getElem?_eq_some_iff.mp eu).1, eu]
      · rw [List.getElem?_set_ne hj]
    rw [hσ2 e2] at g2
    refine ⟨ow2, S3.p0, S3.ld, S3.h0, S3.nw, fun a ha => ?_, S3.xh, g2⟩
    rcases m2 a ha with z | z
    · refine ⟨S2.nw a (S.ows a (sub a z)).2.1 (S.ows a (sub a z)).1, S2.hh (S.ows a (sub a z)).2.1, (S.ows a (sub a z)).2.2⟩
    · exact S3.ows a z.1
end
/-! ### range, downward -/
theorem it_down (lo : Int) (n : Nat) (P2 : Hp) : ItOk (Itc lo (-1) n) ((List.range n).map fun i : Nat => pI (lo - i)) P2 := by
  refine ⟨fun i P' H' hi _ _ => (show i < n by simpa using hi), fun i R P' H' x H'' hR l s y => ?_, fun P' H' _ _ => (show n ≤ _ by simp)⟩
  obtain ⟨rfl, rfl⟩ := y
  rw [List.getElem?_map] at hR
  have hi : i < n := by
    by_cases z : i < n
    · exact z
    · rw [List.getElem?_eq_none (by simpa using z)] at hR; cases hR
  rw [List.getElem?_range hi] at hR
  cases hR
  refine ⟨P', Gr.refl l, ?_⟩
  show V.int _ = V.int _
  congr 1
  omega
section
variable {ι : Type} {F : ι → Cx} {ss ss1 ss2 ss3 : List Sl} {tg a b c : Expr} {p pos : Pos}
theorem ji_down {lo hi : Int} (ha : JE F a ss (pI lo) ss1) (hb : JE F b ss1 (pI hi) ss2) (hc : JE F c ss2 (pI (-1)) ss3) (hz : -(2 ^ 62) ≤ lo ∧ lo < 2 ^ 62 ∧ -(2 ^ 62) ≤ hi ∧ hi < 2 ^ 62) (hm : ∀ i, (F i).mg "range" = none) (hg : ∀ i, Gl (F i) "range" := by intro _; rfl)
    (hs : ∀ i, starEach [a, b, c] (F i).env = (false, eval a (F i).env) :: starEach [b, c] (F i).env := by intro _; rfl) (hs2 : ∀ i, starEach [b, c] (F i).env = (false, eval b (F i).env) :: starEach [c] (F i).env := by intro _; rfl) (hs3 : ∀ i, starEach [c] (F i).env = (false, eval c (F i).env) :: starEach [] (F i).env := by intro _; rfl)
    (hpl : ∀ i, (backTo pos (starEach [b, c] (F i).env)).any (·.1) = false := by intro _; rfl) : JI F tg (.Call (.Name "range" p) [a, b, c] [] pos) ss ((List.range (lo - hi).toNat).map fun i : Nat => pI (lo - i)) ss3 := fun xs P0 H0 ow σ P H S Rr k =>
  ⟨_, fun i => pi_range3 (hg i) (hm i) (pa_cons (xe i) (pa_cons (xe i) (pa_cons (xe i) pa_nil (hs3 i)) (hs2 i)) (hs i)) (hs i) (hpl i), ha _ _ _ _ _ _ _ S _ fun v P2 H2 S2 e2 r => hb _ _ _ _ _ _ _ S2 _ fun u P3 H3 S3 e3 r3 => hc _ _ _ _ _ _ _ S3 _ fun x P4 H4 S4 e4 r4 =>
    ⟨lo, hi, -1, (lo - hi).toNat, by rw [show v = _ from r, show u = _ from r3, show x = _ from r4], RgC.neg hz.1 hz.2.1 hz.2.2.1 hz.2.2.2, k _ P4 H4 S4 (e2.trans (e3.trans e4)) (it_down lo _ _)⟩⟩
end
end Ly
/-! law_k74_line_rounds: _form_numbers, _blocks_alike. -/
namespace K74
open PySem PySem.Spec PyProof.Rows L2 Ly M74
theorem JI.is {ι : Type} {F : ι → Cx} {tg e : Expr} {ss ss1 : List Sl} {Rl Rl' : List Pr} (h : JI F tg e ss Rl ss1) (q : Rl = Rl') : JI F tg e ss Rl' ss1 := q ▸ h
abbrev sFN : Stmt := top 30
abbrev nFN : List Str := ["forms", "rounds", "tables", "wanted", "left", "most", "table", "form", "numbers", "sets", "told", "pairs", "found", "index", "number", "pair"]
theorem scFN : FnScope nFN ["forms", "rounds"] (defScope sFN) := ⟨rfl, rfl, rfl, by decide +kernel, rfl, by decide +kernel, by decide +kernel⟩
/-- all a call of _form_numbers needs -/
def preFN (fs : List Ln) (r : Nat) : Prop := r ≤ 5 ∧ fs.length ≤ 100000 ∧ ∃ m c, c ≤ 50 ∧ (∀ f ∈ fs, Fm m c f) ∧ okB (ded fs).length m c r
abbrev spFN (w : World) (K : PySem.W.Frag) : Sp := spF (fun a : List Ln × Nat => [pL (a.1.map (pBs K)), pI a.2]) (fun a => preFN a.1 a.2) (fun a => pD w (dcE (ded a.1) fun f => pI (numF a.2 (ded a.1) f)))
/-- a table's entry -/
def tv (K : PySem.W.Frag) (l : Nat) (f : Ln) : Pr := pL ((plc (2 ^ l - 1) f).map fun p => pHv K (hv (2 ^ l - 1) f p.1 p.2))
def wantP (w : World) (fs : List Ln) : Pr := pD w (dcE fs fun _ => pB true)
def tabP (w : World) (K : PySem.W.Frag) (r : Nat) (fs : List Ln) (j : Nat) : Pr := pD w (dcE (Wl r fs j) (tv K (r - 1 - j)))
def tabs (w : World) (K : PySem.W.Frag) (r : Nat) (fs : List Ln) (i : Nat) : List Pr := (List.range i).map (tabP w K r fs)
theorem tabs_succ (w : World) (K : PySem.W.Frag) (r : Nat) (fs : List Ln) (i : Nat) : tabs w K r fs (i + 1) = tabs w K r fs i ++ [tabP w K r fs i] := by
  unfold tabs
  rw [List.range_succ, List.map_append]
  rfl
theorem keys_dc (fs : List Ln) (v : Ln → Pr) : (dcE fs v).map (fun E => pNK E.1) = fs.map fun f => pNK (nf f) := by unfold dcE; rw [List.map_map]; rfl
theorem vals_dc (fs : List Ln) (v : Ln → Pr) : (dcE fs v).map (fun E => E.2) = fs.map v := by unfold dcE; rw [List.map_map]; rfl
theorem items_dc (K : PySem.W.Frag) (fs : List Ln) (v : Ln → Pr) : (dcE fs v).map (fun E => pT K [pNK E.1, E.2]) = fs.map fun f => pT K [pNK (nf f), v f] := by unfold dcE; rw [List.map_map]; rfl
theorem dc_len (fs : List Ln) (v : Ln → Pr) : (dcE fs v).length = fs.length := by unfold dcE; rw [List.length_map]
theorem acc_dc (t : Ln → Bool) (ht : ∀ f, t f = true) (v : Ln → Pr) (us : List Ln) : accOf t (fun y Es => putE Es (.tup (nfk y)) (v y)) [] us = dcE (ded us) v := by
  have e : us.filter t = us := List.filter_eq_self.mpr fun x _ => ht x
  unfold accOf
  rw [e]
  exact putAll_ded v us
/-- shift -/
theorem shl_nat (l : Nat) : (1 : Int) * 2 ^ ((l : Int)).toNat - 1 = ((2 ^ l - 1 : Nat) : Int) := by
  have h := pow_pos l
  rw [Int.toNat_natCast, Int.one_mul, Int.ofNat_sub h, Int.natCast_pow]
  rfl
section
variable {P : Program} {w : World} {K : PySem.W.Frag} {mg : Str → Option Value} {base : Heap}
theorem fn_loop1 (T : Cst K mg) {f : Addr} {cdv : Value} {A : Around} {outer : List Env} {s : Shared} {H0 : Hp} {E : XK} (hr : Room 4 (A.deeper (envOfC "_form_numbers" (defScope sFN) s.heap.objs.size f cdv)))
    (cP : ∀ A : Around, Room 4 A → Cal P w K mg base A "_enough_places" (spPlc K)) (cH : ∀ A : Around, Room 4 A → Cal P w K mg base A "_halves" (spHalves K))
    {P0 H1 : Hp} {ow : List Addr} {σ : L2.St} {Px H : Hp} {l m c : Nat} {fs : List Ln} {Ra Rb Rc : Pr} {D : Ends} {rest : List Stmt} (hl : l ≤ 5) (hc : c ≤ 50) (hf : ∀ g ∈ fs, Fm m c g) (hn : fs.Nodup) (hfl : fs.length ≤ 16000000)
    (S : S8 [] P0 H1 ow σ Px H [.pr Ra, .pr Rb, .pr Rc, .pr (wantP w fs), .pr (pI l), .pr (pI (2 ^ l - 1 : Nat)), .ow (oD w []), .un, .un, .un, .un, .un, .un, .un, .un, .un])
    (k : ∀ ow σ Px H, S8 [] P0 H1 ow σ Px H [.pr Ra, .pr Rb, .pr Rc, .pr (wantP w fs), .pr (pI l), .pr (pI (2 ^ l - 1 : Nat)), .ow (oD w (dcE fs (tv K l))), .un, .un, .un, .un, .un, .un, .un, .un, .un] → XS (cxOf CX0 P w K mg base nFN "_form_numbers" (defScope sFN) f cdv A outer s H0 E).nox rest D σ H) :
    XS (cxOf CX0 P w K mg base nFN "_form_numbers" (defScope sFN) f cdv A outer s H0 E).nox ((match defBody sFN with | [_, _, .For _ _ (_ :: _ :: st :: _) _ _, _, _, _] => st | _ => .Pass ⟨0, 0, 0, 0⟩) :: rest) D σ H := by
  refine w_for S (JI.is (ji_keysD (w := w) (je_v 3 fun _ => pv 3)) (keys_dc _ _)) (fun y => jg_name 7 fun _ => pg_name scFN.nd rfl (by first | exact .inl rfl | exact .inr rfl)) (fun pre => [.pr Ra, .pr Rb, .pr Rc, .pr (wantP w fs), .pr (pI l), .pr (pI (2 ^ l - 1 : Nat)), .ow (oD w (dcE pre (tv K l))), .un, .un, .un, .un, .un, .un, .un, .un, .un]) (Wk.refl _) (by simp) ?_ k
  intro xs' P0' H0' _ pre g post hys ow σ Px H S
  have hg : Fm m c g := hf g (by rw [hys]; simp)
  have hnin : g ∉ pre := fun z => by
    rw [hys] at hn
    exact (List.nodup_append.mp hn).2.2 g z g (by simp) rfl
  have hpl : pre.length < 16000000 := by
    have : fs.length = pre.length + (post.length + 1) := by rw [hys, List.length_append, List.length_cons]
    omega
  have h2 : 2 ^ l ≤ 2 ^ 5 := Nat.pow_le_pow_right (by decide) hl
  have e5 : 2 ^ 5 = 32 := rfl
  have hput : putE (dcE pre (tv K l)) (nf g) (tv K l g) = dcE (pre ++ [g]) (tv K l) := by
    rw [put_dc]
    unfold addD
    rw [if_neg hnin]
  have hpc : (plc (2 ^ l - 1) g).length ≤ 100000 := by
    have h1 := (plc_len l g).2
    have h3 : g.length * (2 * 2 ^ l - 1) ≤ 50 * 63 := Nat.mul_le_mul (Nat.le_trans hg.1 hc) (by omega)
    omega
  refine w_setD (w := w) 6 (R := tv K l g) S (JE.is (JF.je (jf_lc [("index", 13), ("number", 14)] [.pr Ra, .pr Rb, .pr Rc, .pr (wantP w fs), .pr (pI l), .pr (pI (2 ^ l - 1 : Nat)), .un, .pr (pNK (nf g)), .un, .un, .un, .un, .un, .un, .un, .un]
    (ji_list (K := K) (je_call (fun _ => cP _ hr) (g, 2 ^ l - 1) (ja_cons (JE.to (je_v 7 fun _ => pv 7) fun _ _ => nf_pbs (by have := hg.1; omega)) (ja_cons (je_v 5 fun _ => pv 5) ja_nil)) ⟨Nat.le_trans hg.1 hc, by dsimp only; omega, hg.2.2⟩))
    (fun _ => blkOk_by (N := nFN) (sc := defScope sFN) (by decide +kernel)) (.keep (.keep (.keep (.keep (.keep (.keep (.drop (Wk.refl _)))))))) rfl (fun y => jg_tup2 (K := K) (jg_name 13 fun _ => pg_name scFN.nd rfl (by first | exact .inl rfl | exact .inr rfl)) (jg_name 14 fun _ => pg_name scFN.nd rfl (by first | exact .inl rfl | exact .inr rfl))) (by simp) (by simp)
    (fun _ => true) (fun p => pHv K (hv (2 ^ l - 1) g p.1 p.2)) (fun _ _ => jts_nil) (fun p hp _ => je_call (Cal.blk fun _ => cH _ hr) (g, p.1, p.2, 2 ^ l - 1) (ja_cons (JE.to (je_v 7 fun _ => pv 7) fun _ _ => nf_pbs (by have := hg.1; omega)) (ja_cons (je_v 13 fun _ => pv 13) (ja_cons (je_v 14 fun _ => pv 14) (ja_cons (je_v 5 fun _ => pv 5) ja_nil)))) ?_) (le_line hpc) (fun _ => scFN.nd))) ?_)
    (fun _ => pv 6) (je_v 7 fun _ => pv 7) rfl (nf_depth g) (by rw [dc_len]; exact Nat.lt_of_lt_of_le hpl (by rw [sizeLine_eq]; decide)) (room16 hr) (fun ow P H S => w_nil ?_)
  · obtain ⟨b, hb, hj⟩ := mem_plc.mp hp
    refine ⟨by have := hg.1; dsimp only; omega, (List.getElem?_eq_some_iff.mp hb).1, fun b' hb' => ?_⟩
    rw [hb] at hb'
    cases hb'
    exact spots_ok hj
  · unfold tv
    rw [List.filter_eq_self.mpr (fun _ _ => rfl)]
  · rw [hput] at S
    exact at8 S (.keep (.keep (.keep (.keep (.keep (.keep (.keep (.drop (Wk.refl _)))))))))
/-! ### numbers given one after another -/
abbrev kS (S : List NP) : List NestedKey := S.map pk
theorem pk_inj {p q : NP} (h : pk p = pk q) : p = q := by
  simp only [pk, NestedKey.tup.injEq, List.cons.injEq, NestedKey.num.injEq] at h
  exact Prod.ext (by omega) (by omega)
theorem mapk_inj : ∀ {S T : List NP}, S.map pk = T.map pk → S = T
  | [], [], _ => rfl
  | [], _ :: _, h => by simp at h
  | _ :: _, [], h => by simp at h
  | a :: S, b :: T, h => by
    simp only [List.map_cons, List.cons.injEq] at h
    rw [pk_inj h.1, mapk_inj h.2]
theorem kS_inj {S T : List NP} (h : NestedKey.tup (kS S) = NestedKey.tup (kS T)) : S = T := mapk_inj (by injection h)
theorem kS_depth (S : List NP) : (NestedKey.tup (kS S)).depth ≤ 8 := by
  have key : ∀ S : List NP, NestedKey.depthAll (kS S) ≤ 1 := by
    intro S
    induction S with
    | nil => exact Nat.zero_le _
    | cons a S ih =>
      show max (pk a).depth (NestedKey.depthAll (kS S)) ≤ 1
      have : (pk a).depth = 1 := rfl
      omega
  show NestedKey.depthAll (kS S) + 1 ≤ 8
  have := key S
  omega
def sEf : Nat → List (List NP) → List (NestedKey × Pr)
  | _, [] => []
  | i, S :: r => (.tup (kS S), pI (i : Nat)) :: sEf (i + 1) r
abbrev sE (acc : List (List NP)) : List (NestedKey × Pr) := sEf 0 acc
theorem ixOf_cons {α : Type} [DecidableEq α] (x : α) (l : List α) (y : α) : ixOf (x :: l) y = if x = y then 0 else ixOf l y + 1 := by
  unfold ixOf
  rw [List.idxOf_cons]
  by_cases h : x = y
  · subst h; simp
  · rw [if_neg h]
    have : (x == y) = false := by simpa using h
    rw [this]
    rfl
theorem at_sEf : ∀ (acc : List (List NP)) (i : Nat) (S : List NP), atE (sEf i acc) (.tup (kS S)) = if S ∈ acc then some (pI ((i + ixOf acc S : Nat))) else none
  | [], i, S => rfl
  | T :: acc, i, S => by
    unfold atE sEf
    rw [List.find?_cons]
    by_cases h : T = S
    · subst h
      simp only [decide_true, Option.map_some]
      rw [if_pos (by simp), ixOf_cons, if_pos rfl]
      rfl
    · have n : ¬ (NestedKey.tup (kS T) = NestedKey.tup (kS S)) := fun z => h (kS_inj z)
      simp only [n, decide_false]
      have ih := at_sEf acc (i + 1) S
      unfold atE at ih
      rw [ih, ixOf_cons, if_neg h]
      by_cases m : S ∈ acc
      · rw [if_pos m, if_pos (List.mem_cons_of_mem _ m)]
        have e : i + 1 + ixOf acc S = i + (ixOf acc S + 1) := by omega
        rw [e]
      · rw [if_neg m, if_neg fun z => (List.mem_cons.mp z).elim (fun z => h z.symm) m]
theorem sEf_app : ∀ (acc : List (List NP)) (i : Nat) (S : List NP), sEf i (acc ++ [S]) = sEf i acc ++ [(.tup (kS S), pI ((i + acc.length : Nat)))]
  | [], i, S => rfl
  | T :: acc, i, S => by
    show (NestedKey.tup (kS T), pI (i : Nat)) :: sEf (i + 1) (acc ++ [S]) = (NestedKey.tup (kS T), pI (i : Nat)) :: (sEf (i + 1) acc ++ _)
    rw [sEf_app acc (i + 1) S, List.length_cons]
    have e : i + 1 + acc.length = i + (acc.length + 1) := by omega
    rw [e]
theorem sE_len (acc : List (List NP)) : (sE acc).length = acc.length := by
  have key : ∀ (acc : List (List NP)) (i : Nat), (sEf i acc).length = acc.length := by
    intro acc
    induction acc with
    | nil => intro i; rfl
    | cons S acc ih => intro i; show (sEf (i + 1) acc).length + 1 = _; rw [ih]; rfl
  exact key acc 0
theorem sE_put (acc : List (List NP)) (S : List NP) : (if (atE (sE acc) (.tup (kS S))).isSome then sE acc else sE acc ++ [(.tup (kS S), pI ((acc.length : Nat)))]) = sE (addD acc S) := by
  rw [at_sEf]
  unfold addD
  by_cases m : S ∈ acc
  · rw [if_pos m, if_pos m]; rfl
  · rw [if_neg m, if_neg m]
    show sEf 0 acc ++ _ = sEf 0 (acc ++ [S])
    rw [sEf_app, Nat.zero_add]
theorem ixOf_snoc {acc : List (List NP)} {S : List NP} (h : S ∉ acc) : ixOf (acc ++ [S]) S = acc.length := by
  induction acc with
  | nil => rw [List.nil_append, ixOf_cons, if_pos rfl]; rfl
  | cons T acc ih =>
    rw [List.cons_append, ixOf_cons, if_neg fun z => h (by simp [z]), ih fun z => h (List.mem_cons_of_mem _ z)]
    rfl
theorem fn_loop2 (T : Cst K mg) {f : Addr} {cdv : Value} {A : Around} {outer : List Env} {s : Shared} {H0 : Hp} {E : XK} (hr : Room 4 (A.deeper (envOfC "_form_numbers" (defScope sFN) s.heap.objs.size f cdv)))
    (cN : ∀ A : Around, Room 4 A → Cal P w K mg base A "_numbers_of" (spNumOf w K))
    {P0 H1 : Hp} {ow : List Addr} {σ : L2.St} {Px H : Hp} {l : Nat} {fs us : List Ln} {g : Ln → Nat} {Ra Rb Rc Rd : Pr} {D : Ends} (hn : fs.Nodup) (hfl : fs.length ≤ 16000000) (hp62 : ∀ f ∈ fs, (plc (2 ^ l - 1) f).length ≤ 62)
    (hmem : ∀ f ∈ fs, ∀ p ∈ plc (2 ^ l - 1) f, (hv (2 ^ l - 1) f p.1 p.2).1 ∈ us ∧ (hv (2 ^ l - 1) f p.1 p.2).2 ∈ us) (hg : ∀ f, g f ≤ 16000000)
    (S : S8 [] P0 H1 ow σ Px H [.pr Ra, .pr Rb, .pr Rc, .pr Rd, .un, .un, .pr (pD w (dcE fs (tv K l))), .un, .pr (pD w (dcE us fun f => pI (g f))), .ow (oD w []), .ow (oD w []), .un, .un, .un, .un, .un])
    {rest : List Stmt} (k : ∀ ow σ Px H, S8 [] P0 H1 ow σ Px H [.pr Ra, .pr Rb, .pr Rc, .pr Rd, .un, .un, .pr (pD w (dcE fs (tv K l))), .un, .pr (pD w (dcE us fun f => pI (g f))), .ow (oD w (sE (ded (fs.map (keyF (2 ^ l - 1) g))))),
      .ow (oD w (dcE fs fun f => pI (ixOf (ded (fs.map (keyF (2 ^ l - 1) g))) (keyF (2 ^ l - 1) g f) : Nat))), .un, .un, .un, .un, .un] → XS (cxOf CX0 P w K mg base nFN "_form_numbers" (defScope sFN) f cdv A outer s H0 E).nox rest D σ H) :
    XS (cxOf CX0 P w K mg base nFN "_form_numbers" (defScope sFN) f cdv A outer s H0 E).nox ((match defBody sFN with | [_, _, _, _, .For _ _ (_ :: _ :: st :: _) _ _, _] => st | _ => .Pass ⟨0, 0, 0, 0⟩) :: rest) D σ H := by
  refine w_for S (JI.is (ji_itemsD (w := w) K (je_v 6 fun _ => pv 6)) (items_dc K _ _)) (fun y => jg_tup2 (K := K) (jg_name 7 fun _ => pg_name scFN.nd rfl (by first | exact .inl rfl | exact .inr rfl)) (jg_name 11 fun _ => pg_name scFN.nd rfl (by first | exact .inl rfl | exact .inr rfl)))
    (fun pre => [.pr Ra, .pr Rb, .pr Rc, .pr Rd, .un, .un, .pr (pD w (dcE fs (tv K l))), .un, .pr (pD w (dcE us fun f => pI (g f))), .ow (oD w (sE (ded (pre.map (keyF (2 ^ l - 1) g))))), .ow (oD w (dcE pre fun f => pI (ixOf (ded (fs.map (keyF (2 ^ l - 1) g))) (keyF (2 ^ l - 1) g f) : Nat))), .un, .un, .un, .un, .un]) (Wk.refl _) (by simp) ?_ k
  intro xs' P0' H0' _ pre q post hys ow σ Px H S
  have hq : q ∈ fs := by rw [hys]; simp
  have hnin : q ∉ pre := fun z => by
    rw [hys] at hn
    exact (List.nodup_append.mp hn).2.2 q z q (by simp) rfl
  have hpl : pre.length < 16000000 := by
    have : fs.length = pre.length + (post.length + 1) := by rw [hys, List.length_append, List.length_cons]
    omega
  have e1 : ((cz ((plc (2 ^ l - 1) q).map fun p => (g (hv (2 ^ l - 1) q p.1 p.2).1, g (hv (2 ^ l - 1) q p.1 p.2).2))).map pPr) = (kS (keyF (2 ^ l - 1) g q)).map pNK := by
    unfold keyF
    rw [List.map_map]
    rfl
  refine w_asg 12 (R := pNK (.tup (kS (keyF (2 ^ l - 1) g q)))) S (JE.to (JE.is (je_tupleL (K := K) (JF.je (jf_sortedZ (K := K) (Pg := P) (w := w) 16000001 (JM.jn (jm_sc (K := K) (Pg := P) (w := w) [("pair", 15)] [.pr Ra, .pr Rb, .pr Rc, .pr Rd, .un, .un, .pr (pD w (dcE fs (tv K l))), .pr (pNK (nf q)), .pr (pD w (dcE us fun f => pI (g f))), .un, .un, .pr (tv K l q), .un, .un, .un, .un]
    (fun p => (g (hv (2 ^ l - 1) q p.1 p.2).1, g (hv (2 ^ l - 1) q p.1 p.2).2)) (ji_list (K := K) (je_v 11 fun _ => pv 11)) (fun _ => blkOk_by (N := nFN) (sc := defScope sFN) (by decide +kernel)) (.keep (.keep (.keep (.keep (.keep (.keep (.keep (.keep (.keep (.drop (.drop (Wk.refl _)))))))))))) rfl
    (fun y => jg_name 15 fun _ => pg_name scFN.nd rfl (by first | exact .inl rfl | exact .inr rfl)) (by simp) (by simp) (fun p hp => je_call (Cal.blk fun _ => cN _ hr) (hv (2 ^ l - 1) q p.1 p.2, us, g) (ja_cons (je_v 15 fun _ => pv 15) (ja_cons (je_v 8 fun _ => pv 8) ja_nil)) (hmem q hq p hp)) (Nat.lt_of_le_of_lt (hp62 q hq) (by decide)) (fun _ => room16 hr) (fun _ => scFN.nd)))
    (fun z hz => by
      obtain ⟨p, _, rfl⟩ := List.mem_map.mp hz
      have h1 := hg (hv (2 ^ l - 1) q p.1 p.2).1
      have h2 := hg (hv (2 ^ l - 1) q p.1 p.2).2
      dsimp only
      omega) (fun _ => T.bt.sorted))) ?_ (fun _ => T.bt.tuple)) (congrArg (pT K) e1)) fun _ _ => pT_NK) (fun ow σ Px H S => ?_) scFN.nd
  · rw [List.length_map]
    refine le_line (Nat.le_trans (cz_len _) ?_)
    rw [List.length_map]
    exact Nat.le_trans (hp62 q hq) (by decide)
  have hdl : (ded (pre.map (keyF (2 ^ l - 1) g))).length ≤ pre.length := Nat.le_trans (ded_len _) (by rw [List.length_map]; exact Nat.le_refl _)
  have hded : ded ((pre ++ [q]).map (keyF (2 ^ l - 1) g)) = addD (ded (pre.map (keyF (2 ^ l - 1) g))) (keyF (2 ^ l - 1) g q) := by
    unfold ded
    rw [List.map_append, List.foldl_append]
    rfl
  have hix : ixOf (ded (fs.map (keyF (2 ^ l - 1) g))) (keyF (2 ^ l - 1) g q) = ixOf (addD (ded (pre.map (keyF (2 ^ l - 1) g))) (keyF (2 ^ l - 1) g q)) (keyF (2 ^ l - 1) g q) := by
    have e : ded (fs.map (keyF (2 ^ l - 1) g)) = (post.map (keyF (2 ^ l - 1) g)).foldl addD (ded ((pre ++ [q]).map (keyF (2 ^ l - 1) g))) := by
      have e2 : fs = (pre ++ [q]) ++ post := by rw [hys]; simp
      conv => lhs; rw [e2]
      unfold ded
      rw [List.map_append, List.foldl_append]
    rw [e, hded]
    obtain ⟨t, et⟩ := fold_ext (post.map (keyF (2 ^ l - 1) g)) (addD (ded (pre.map (keyF (2 ^ l - 1) g))) (keyF (2 ^ l - 1) g q))
    rw [et, ixOf_app (mem_addD _ _)]
  have hsz : ∀ {n : Nat}, n < 16000000 → n < sizeLine := fun h => Nat.lt_of_lt_of_le h (by rw [sizeLine_eq]; decide)
  refine w_setD (w := w) 10 (R := pI (ixOf (ded (fs.map (keyF (2 ^ l - 1) g))) (keyF (2 ^ l - 1) g q) : Nat)) S (je_setdef (w := w) 9 (R := pI ((sE (ded (pre.map (keyF (2 ^ l - 1) g)))).length : Int)) (fun _ => pv 9) (je_v 12 fun _ => pv 12) (je_lenDO (w := w) 9 (fun _ => pv 9) rfl fun _ => T.bt.len) rfl (kS_depth _) (by rw [sE_len]; exact hsz (by omega)) (fun _ => room16 hr) (fun R1 h1 => ?_) (fun h1 => ?_) (fun _ => ⟨rfl, rfl, rfl, rfl⟩))
    (fun _ => pv 10) (je_v 7 fun _ => pv 7) rfl (nf_depth q) (by rw [dc_len]; exact hsz hpl) (room16 hr) (fun ow Px H S => w_nil ?_)
  · rw [at_sEf] at h1
    by_cases m : keyF (2 ^ l - 1) g q ∈ ded (pre.map (keyF (2 ^ l - 1) g))
    · rw [if_pos m] at h1
      rw [hix]
      unfold addD
      rw [if_pos m]
      injection h1 with h1
      rw [← h1, Nat.zero_add]
    · rw [if_neg m] at h1
      cases h1
  · rw [at_sEf] at h1
    by_cases m : keyF (2 ^ l - 1) g q ∈ ded (pre.map (keyF (2 ^ l - 1) g))
    · rw [if_pos m] at h1
      cases h1
    · rw [hix]
      unfold addD
      rw [if_neg m, ixOf_snoc m, sE_len]
  · have hput := put_dc (fs := pre) (v := fun f => pI (ixOf (ded (fs.map (keyF (2 ^ l - 1) g))) (keyF (2 ^ l - 1) g f) : Nat)) (f := q)
    have hadd : addD pre q = pre ++ [q] := by unfold addD; rw [if_neg hnin]
    rw [hadd] at hput
    have hset := sE_put (ded (pre.map (keyF (2 ^ l - 1) g))) (keyF (2 ^ l - 1) g q)
    rw [← hded, ← sE_len (ded (pre.map (keyF (2 ^ l - 1) g)))] at hset
    rw [hput, hset] at S
    exact at8 S (.keep (.keep (.keep (.keep (.keep (.keep (.keep (.drop (.keep (.keep (.keep (.drop (.drop (Wk.refl _))))))))))))))
theorem range_ix {r i : Nat} {pre post : List Nat} (h : List.range r = pre ++ i :: post) : i = pre.length ∧ pre.length < r := by
  have hl : (List.range r).length = pre.length + (post.length + 1) := by rw [h, List.length_append, List.length_cons]
  rw [List.length_range] at hl
  have hlt : pre.length < r := by omega
  have e : (List.range r)[pre.length]? = some i := by rw [h, List.getElem?_append_right (Nat.le_refl _)]; simp
  rw [List.getElem?_range hlt] at e
  exact ⟨(Option.some.inj e).symm, hlt⟩
theorem numF_succ (l : Nat) (fs : List Ln) : (fun f => pI (numF (l + 1) fs f : Nat)) = fun f => pI (ixOf (ded (fs.map (keyF (2 ^ l - 1) (numF l (lev l fs))))) (keyF (2 ^ l - 1) (numF l (lev l fs)) f) : Nat) := rfl
theorem flat_halves (l : Nat) (fs : List Ln) : (fs.flatMap fun f => ((plc (2 ^ l - 1) f).map fun p => hv (2 ^ l - 1) f p.1 p.2).flatMap fun pr => [pr.1, pr.2]) = halvesOf l fs := by
  unfold halvesOf
  congr 1
  funext f
  rw [List.flatMap_map]
theorem ok_FN (T : Cst K mg) {f : Addr} {fd : FuncData} (F : FnP K "_form_numbers" sFN f fd) (cP : ∀ A : Around, Room 4 A → Cal P w K mg base A "_enough_places" (spPlc K)) (cH : ∀ A : Around, Room 4 A → Cal P w K mg base A "_halves" (spHalves K))
    (cN : ∀ A : Around, Room 4 A → Cal P w K mg base A "_numbers_of" (spNumOf w K)) : FnOk P w K mg base CX0 5 f fd ["forms", "rounds"] (spFN w K) := by
  refine fnF 4 F scFN (fun _ => rfl) fun cdv A outer s H0 Q E hr P0 a σ pre S kQ => ?_
  obtain ⟨forms, r⟩ := a
  obtain ⟨hr5, hfl, m, c, hc, hfm, hok⟩ := pre
  dsimp only at hr5 hfl hfm hok S kQ
  generalize hfs : ded forms = fs at hok kQ
  have hfsm : ∀ g ∈ fs, Fm m c g := fun g hg => hfm g (by rw [← hfs] at hg; exact mem_ded.mp hg)
  have hnd : fs.Nodup := by rw [← hfs]; exact nodup_ded _
  have LV := Wl_ok hr5 hfsm hok
  refine w_asgF 2 S (jf_lst ja_nil) (fun ow σ P H S => ?_) scFN.nd
  refine w_asgMP 3 (R := wantP w fs) S (JM.is (jm_dc1 (w := w) (t := all) [("form", 7)] [.pr (pL (forms.map (pBs K))), .pr (pI r), .un, .un, .un, .un, .un, .un, .un, .un, .un, .un, .un, .un, .un, .un] nfk (fun _ => pB true) (ji_list (K := K) (je_v 0 fun _ => pv 0))
    (fun _ => blkOk_by (N := nFN) (sc := defScope sFN) (by decide +kernel)) (.keep (.keep (.drop (Wk.refl _)))) rfl (fun y => jg_name 7 fun _ => pg_name scFN.nd rfl (by first | exact .inl rfl | exact .inr rfl)) (by simp) (by simp) (fun _ _ => jts_nil) (fun y _ _ => JE.to (je_v 7 fun _ => pv 7) fun _ _ => pbs_nf) (fun y _ _ => je_bl) (fun y _ => nf_depth y) (le_line hfl) (fun _ => room16 hr) (fun _ => scFN.nd)) (O' := oD w (dcE fs fun _ => pB true)) (by
      rw [acc_dc all (fun _ => rfl) (fun _ => pB true), hfs])) oD_pD (fun ow σ P H S => ?_) scFN.nd
  -- the tables
  refine w_for (ys := List.range r) (r := fun i => pI (r - 1 - i : Nat)) S (JI.is (ji_down (je_sub (je_v 1 fun _ => pv 1) je_i) (je_neg je_i) (je_neg je_i) (by omega) (fun _ => T.bt.range)) (by
      have e : ((r : Int) - 1 - -1).toNat = r := by omega
      rw [e]
      refine List.map_congr_left fun i hi => ?_
      have := List.mem_range.mp hi
      exact congrArg (fun z => pI z) (by omega))) (fun y => jg_name 4 fun _ => pg_name scFN.nd rfl (by first | exact .inl rfl | exact .inr rfl))
    (fun pre => [.pr (pL (forms.map (pBs K))), .pr (pI r), .ow (oL (tabs w K r fs pre.length)), .pr (wantP w (Wl r fs pre.length)), .un, .un, .un, .un, .un, .un, .un, .un, .un, .un, .un, .un]) (Wk.refl _) (by simp) ?_ ?_
  · intro xs' P0' H0' _ pre i post hys ow σ P H S
    obtain ⟨rfl, hi⟩ := range_ix hys
    have lv := LV pre.length (by omega)
    generalize hW : Wl r fs pre.length = W at S lv
    have hWf : ∀ g ∈ W, Fm (m + pre.length) c g := by rw [← hW]; exact lv.fm
    have hWn : W.Nodup := by rw [← hW]; exact Wl_nodup hnd _
    generalize hl : r - 1 - pre.length = l at S
    have ho : okB W.length (m + pre.length) c (l + 1) := by
      have := lv.ok
      rw [hW] at this
      have e : r - pre.length = l + 1 := by omega
      rw [e] at this
      exact this
    obtain ⟨hlev, hhalf, _⟩ := okB_lev hWf ho
    refine w_asg 5 (R := pI (2 ^ l - 1 : Nat)) S (JE.is (je_sub (je_shl je_i (je_v 4 fun _ => pv 4) ⟨by omega, by omega, by decide⟩) je_i) (congrArg (fun z => pI z) (shl_nat l))) (fun ow σ P H S => ?_) scFN.nd
    obtain ⟨v, fp, ev, okv, subv, S1, back⟩ := S.lend (i := 2) rfl (fun _ => rfl)
    refine w_asgN 6 S1 (jn_dict (w := w)) (fun ow σ P H S => ?_) scFN.nd
    refine fn_loop1 T hr cP cH (m := m + pre.length) (c := c) (by omega) hc hWf hWn ho.n S fun ow σ P H S => ?_
    obtain ⟨ow, P, S, _, _⟩ := S.stillD (w := w) (i := 6) rfl
    obtain ⟨ow, S⟩ := back _ _ _ _ _ S rfl
    have etab : pD w (dcE W (tv K l)) = tabP w K r fs pre.length := by unfold tabP; rw [hW, hl]
    refine w_app 2 S (fun _ => pv 2) (je_v 6 fun _ => pv 6) rfl rfl (by unfold tabs; rw [List.length_map, List.length_range]; exact Nat.lt_of_lt_of_le (show pre.length < 10 by omega) (by rw [sizeLine_eq]; decide)) (fun ow P H S => ?_)
    refine w_asgMP 3 (R := wantP w (lev l W)) S (JM.is (jm_dc3 (w := w) (r := tv K l) [("pairs", 11), ("pair", 15), ("form", 7)] [.pr (pL (forms.map (pBs K))), .pr (pI r), .un, .pr (wantP w W), .pr (pI l), .pr (pI (2 ^ l - 1 : Nat)), .pr (pD w (dcE W (tv K l))), .un, .un, .un, .un, .un, .un, .un, .un, .un] nfk (fun _ => pB true)
      (fun f => (plc (2 ^ l - 1) f).map fun p => hv (2 ^ l - 1) f p.1 p.2) (pHv K) (fun pr => [pr.1, pr.2]) (pBs K)
      (fun f => [.pr (pL (forms.map (pBs K))), .pr (pI r), .un, .pr (wantP w W), .pr (pI l), .pr (pI (2 ^ l - 1 : Nat)), .pr (pD w (dcE W (tv K l))), .un, .un, .un, .un, .pr (tv K l f), .un, .un, .un, .un])
      (fun f pr => [.pr (pL (forms.map (pBs K))), .pr (pI r), .un, .pr (wantP w W), .pr (pI l), .pr (pI (2 ^ l - 1 : Nat)), .pr (pD w (dcE W (tv K l))), .un, .un, .un, .un, .un, .un, .un, .un, .pr (pHv K pr)])
      (fun f pr u => [.pr (pL (forms.map (pBs K))), .pr (pI r), .un, .pr (wantP w W), .pr (pI l), .pr (pI (2 ^ l - 1 : Nat)), .pr (pD w (dcE W (tv K l))), .pr (pBs K u), .un, .un, .un, .un, .un, .un, .un, .un])
      (JI.is (ji_valsD (w := w) (je_v 6 fun _ => pv 6)) (vals_dc _ _)) (fun _ => blkOk_by (N := nFN) (sc := defScope sFN) (by decide +kernel)) (.keep (.keep (.drop (Wk.refl _)))) rfl (js := [11]) (js1 := [15]) (js2 := [7]) (by simp) (by simp)
      (fun f ss => ss.set 11 (.pr (tv K l f))) (fun _ pr ss => ss.set 15 (.pr (pHv K pr))) (fun _ _ u ss => ss.set 7 (.pr (pBs K u)))
      (fun y => jg_name 11 fun _ => pg_name scFN.nd rfl (by first | exact .inl rfl | exact .inr rfl)) (fun _ => rfl) (fun _ => rfl) (fun _ => by simp)
      (fun y _ => JI.is (ji_list (K := K) (je_v 11 fun _ => pv 11)) (by rw [List.map_map]; rfl)) (fun _ z => jg_name 15 fun _ => pg_name scFN.nd rfl (by first | exact .inl rfl | exact .inr rfl)) (fun _ _ => rfl) (fun _ _ => rfl) (fun _ _ => by simp)
      (fun y _ z _ => ji_tup (K := K) (je_v 15 fun _ => pv 15)) (fun _ _ u => jg_name 7 fun _ => pg_name scFN.nd rfl (by first | exact .inl rfl | exact .inr rfl)) (fun _ _ _ => rfl)
      (fun _ _ _ _ u _ => JE.to (je_v 7 fun _ => pv 7) fun _ _ => pbs_nf) (fun _ _ _ _ u _ => je_bl) (fun u => nf_depth u) (by rw [flat_halves]; exact Nat.le_trans hhalf (by rw [sizeLine_eq]; decide)) (fun _ => room16 hr) (fun _ => scFN.nd)) (O' := oD w (dcE (lev l W) fun _ => pB true)) (by
        rw [flat_halves, putAll_ded (fun _ => pB true)]
        rfl)) oD_pD (fun ow σ P H S => w_nil ?_) scFN.nd
    have eW : Wl r fs (pre ++ [pre.length]).length = lev l W := by
      rw [List.length_append]
      show lev (r - 1 - pre.length) (Wl r fs pre.length) = _
      rw [hl, hW]
    have eT : tabs w K r fs (pre ++ [pre.length]).length = tabs w K r fs pre.length ++ [pD w (dcE W (tv K l))] := by
      rw [List.length_append, etab]
      exact tabs_succ w K r fs pre.length
    rw [eW, eT]
    exact at8 S (.keep (.keep (.keep (.keep (.drop (.drop (.drop (.drop (Wk.refl _)))))))))
  · intro ow σ P H S
    rw [List.length_range] at S
    obtain ⟨ow, P, S, _, _⟩ := S.still (i := 2) rfl
    have lvr := LV r (Nat.le_refl _)
    have hnr := Wl_nodup (r := r) hnd r
    have hsr : (Wl r fs r).length ≤ 16000000 := lvr.ok.n
    refine w_asg 8 (R := pD w (dcE (Wl r fs r) fun f => pI (numF 0 (Wl r fs r) f : Nat))) S (JN.jeD (JM.jn (JM.is (jm_dc1 (w := w) (t := all) [("form", 7)] [.pr (pL (forms.map (pBs K))), .pr (pI r), .pr (pL (tabs w K r fs r)), .pr (wantP w (Wl r fs r)), .un, .un, .un, .un, .un, .un, .un, .un, .un, .un, .un, .un] nfk (fun _ => pI 0) (JI.is (ji_keysD (w := w) (je_v 3 fun _ => pv 3)) (keys_dc _ _))
      (fun _ => blkOk_by (N := nFN) (sc := defScope sFN) (by decide +kernel)) (Wk.refl _) rfl (fun y => jg_name 7 fun _ => pg_name scFN.nd rfl (by first | exact .inl rfl | exact .inr rfl)) (by simp) (by simp) (fun _ _ => jts_nil) (fun y _ _ => je_v 7 fun _ => pv 7) (fun y _ _ => je_i) (fun y _ => nf_depth y) (Nat.le_trans hsr (by rw [sizeLine_eq]; decide)) (fun _ => room16 hr) (fun _ => scFN.nd)) (O' := oD w (dcE (Wl r fs r) fun f => pI (numF 0 (Wl r fs r) f : Nat))) (by
        rw [acc_dc all (fun _ => rfl) (fun _ => pI 0), ded_id hnr]
        rfl)))) (fun ow σ P H S => ?_) scFN.nd
    refine w_for (ys := List.range r) (r := fun t => pD w (dcE (Wl r fs (r - 1 - t)) (tv K t))) S (JI.is (ji_list (K := K) (JF.je (jf_rev (K := K) (je_v 2 fun _ => pv 2)))) (by
        unfold tabs
        rw [← List.map_reverse]
        refine List.ext_getElem? fun j => ?_
        rw [List.getElem?_map, List.getElem?_map]
        by_cases hj : j < r
        · rw [List.getElem?_reverse (by simpa using hj), List.length_range, List.getElem?_range (by omega), List.getElem?_range hj]
          show some (tabP w K r fs (r - 1 - j)) = _
          unfold tabP
          have e : r - 1 - (r - 1 - j) = j := by omega
          rw [e]
          rfl
        · rw [List.getElem?_eq_none (by simpa using hj), List.getElem?_eq_none (by simpa using hj)]
          rfl)) (fun y => jg_name 6 fun _ => pg_name scFN.nd rfl (by first | exact .inl rfl | exact .inr rfl))
      (fun pre => [.pr (pL (forms.map (pBs K))), .pr (pI r), .pr (pL (tabs w K r fs r)), .pr (wantP w (Wl r fs r)), .un, .un, .un, .un, .pr (pD w (dcE (Wl r fs (r - pre.length)) fun f => pI (numF pre.length (Wl r fs (r - pre.length)) f : Nat))), .un, .un, .un, .un, .un, .un, .un]) (by rw [List.length_nil, Nat.sub_zero]; exact Wk.refl _) (by simp) ?_ ?_
    · intro xs' P0' H0' _ pre t post hys ow σ P H S
      obtain ⟨rfl, hi⟩ := range_ix hys
      generalize ht : pre.length = t at S hi
      have lv := LV (r - 1 - t) (by omega)
      have eW : Wl r fs (r - t) = lev t (Wl r fs (r - 1 - t)) := by
        have e : r - t = (r - 1 - t) + 1 := by omega
        rw [e]
        show lev (r - 1 - (r - 1 - t)) _ = _
        have e2 : r - 1 - (r - 1 - t) = t := by omega
        rw [e2]
      rw [eW] at S
      have hWn := Wl_nodup (r := r) hnd (r - 1 - t)
      generalize hW : Wl r fs (r - 1 - t) = W at S lv hWn
      have hWf : ∀ g ∈ W, Fm (m + (r - 1 - t)) c g := by rw [← hW]; exact lv.fm
      have ho : okB W.length (m + (r - 1 - t)) c (t + 1) := by
        have := lv.ok
        rw [hW] at this
        have e : r - (r - 1 - t) = t + 1 := by omega
        rw [e] at this
        exact this
      obtain ⟨hlev, hhalf, h62⟩ := okB_lev hWf ho
      have S1 := S.pure (Wk.refl _) rfl
      refine w_asgN 9 S1 (jn_dict (w := w)) (fun ow9 σ9 P9 H9 S9 => ?_) scFN.nd
      refine w_asgN 10 S9 (jn_dict (w := w)) (fun ow10 σ10 P10 H10 S10 => ?_) scFN.nd
      refine fn_loop2 T hr cN (us := lev t W) (g := numF t (lev t W)) hWn ho.n h62 (fun f hf p hp => mem_lev hf hp) (fun f => Nat.le_trans (numF_lt _ _ _) hlev.n) S10 fun ow11 σ11 P11 H11 S11 => ?_
      obtain ⟨ow12, P12, S12, _, _⟩ := S11.stillD (w := w) (i := 10) rfl
      refine w_asg 8 S12 (je_v 10 fun _ => pv 10) (fun ow13 σ13 P13 H13 S13 => w_nil ?_) scFN.nd
      have S14 := S.backP S13
      have e8 : pD w (dcE (Wl r fs (r - (pre ++ [t]).length)) fun f => pI (numF (pre ++ [t]).length (Wl r fs (r - (pre ++ [t]).length)) f : Nat)) = pD w (dcE W fun f => pI (ixOf (ded (W.map (keyF (2 ^ t - 1) (numF t (lev t W))))) (keyF (2 ^ t - 1) (numF t (lev t W)) f) : Nat)) := by
        have e : (pre ++ [t]).length = t + 1 := by rw [List.length_append, ht]; rfl
        have e2 : r - (t + 1) = r - 1 - t := by omega
        rw [e, e2, hW]
        rfl
      rw [e8]
      exact at8 S14 (.keep (.keep (.keep (.keep (.keep (.keep (.drop (.keep (.keep (.drop (.drop (Wk.refl _))))))))))))
    · intro ow σ P H S
      rw [List.length_range, Nat.sub_self] at S
      exact w_ret S (je_v 8 fun _ => pv 8) fun v P H S r => kQ v P H S.gr r
end
end K74
/-! law_k74_line_rounds: _blocks_alike. -/
namespace K74
open PySem PySem.Spec PyProof.Rows L2 Ly M74
noncomputable def eB (r : Nat) (a b : Ln) : Bool := @decide (E r a b) (Classical.propDecidable _)
theorem eB_iff {r : Nat} {a b : Ln} : eB r a b = true ↔ E r a b := by unfold eB; exact @decide_eq_true_iff _ (Classical.propDecidable _)
/-- small enough for r rounds -/
structure Sm (r m c : Nat) (a : Ln) : Prop where
  pos : Pos a
  len : a.length ≤ 50
  num : ∀ k, Blk.n k ∈ a → k ≤ 1000
  wt : wt (form (2 ^ r - 1) a) ≤ m
  fl : (form (2 ^ r - 1) a).length ≤ c
theorem Sm.fm {r m c : Nat} {a : Ln} (h : Sm r m c a) (hr : r ≤ 5) : Fm m c (form (2 ^ r - 1) a) := ⟨h.fl, h.wt, fun k hk => by
  have h1 := num_form hk
  have h2 : 2 ^ r ≤ 2 ^ 5 := Nat.pow_le_pow_right (by decide) hr
  have e5 : 2 ^ 5 = 32 := rfl
  omega⟩
def preBA (a b : Ln) (r : Nat) : Prop := r ≤ 5 ∧ ∃ m c, c ≤ 50 ∧ Sm r m c a ∧ Sm r m c b ∧ okB 2 m c r
section
variable {P : Program} {w : World} {K : PySem.W.Frag} {mg : Str → Option Value} {base : Heap}
abbrev sBA : Stmt := top 25
abbrev nBA : List Str := ["blocks", "others", "rounds", "most", "form", "far", "numbers"]
theorem scBA : FnScope nBA ["blocks", "others", "rounds"] (defScope sBA) := ⟨rfl, rfl, rfl, by decide +kernel, rfl, by decide +kernel, by decide +kernel⟩
noncomputable abbrev spBA (K : PySem.W.Frag) : Sp := spF (fun a : Ln × Ln × Nat => [pBs K a.1, pBs K a.2.1, pI a.2.2]) (fun a => preBA a.1 a.2.1 a.2.2) (fun a => pB (eB a.2.2 a.1 a.2.1))
theorem ok_BA {f : Addr} {fd : FuncData} (F : FnP K "_blocks_alike" sBA f fd) (cF : ∀ A : Around, Room 5 A → Cal P w K mg base A "_form" (spForm K)) (cN : ∀ A : Around, Room 5 A → Cal P w K mg base A "_form_numbers" (spFN w K)) :
    FnOk P w K mg base CX0 6 f fd ["blocks", "others", "rounds"] (spBA K) := by
  refine fnF 5 F scBA (fun _ => rfl) fun cdv A outer s H0 Q E hr P0 a σ pre S kQ => ?_
  obtain ⟨bs, os, r⟩ := a
  obtain ⟨hr5, m, c, hc, sa, sb, ok⟩ := pre
  dsimp only at hr5 sa sb S kQ
  refine w_asg 3 (R := pI (2 ^ r - 1 : Nat)) S (JE.is (je_sub (je_shl je_i (je_v 2 fun _ => pv 2) ⟨by omega, by omega, by decide⟩) je_i) (congrArg (fun z => pI z) (shl_nat r))) (fun ow σ P H S => ?_) scBA.nd
  refine w_asg 4 S (je_call (fun _ => cF _ hr) (bs, 2 ^ r - 1) (ja_cons (je_v 0 fun _ => pv 0) (ja_cons (je_v 3 fun _ => pv 3) ja_nil)) (by have := sa.len; dsimp only; omega)) (fun ow σ P H S => ?_) scBA.nd
  refine w_asg 5 S (je_call (fun _ => cF _ hr) (os, 2 ^ r - 1) (ja_cons (je_v 1 fun _ => pv 1) (ja_cons (je_v 3 fun _ => pv 3) ja_nil)) (by have := sb.len; dsimp only; omega)) (fun ow σ P H S => ?_) scBA.nd
  generalize ha : form (2 ^ r - 1) bs = fa at S
  generalize hb : form (2 ^ r - 1) os = fb at S
  have fma : Fm m c fa := ha ▸ sa.fm hr5
  have fmb : Fm m c fb := hb ▸ sb.fm hr5
  have hfm : ∀ f ∈ [fa, fb], Fm m c f := fun f hf => by
    rcases List.mem_cons.mp hf with e | e
    · rw [e]; exact fma
    · rw [show f = fb by simpa using e]; exact fmb
  have ma : fa ∈ ded [fa, fb] := mem_ded.mpr (by simp)
  have mb : fb ∈ ded [fa, fb] := mem_ded.mpr (by simp)
  refine w_asg 6 S (je_call (fun _ => cN _ hr) ([fa, fb], r) (ja_cons (JF.je (jf_lst (ja_cons (je_v 4 fun _ => pv 4) (ja_cons (je_v 5 fun _ => pv 5) ja_nil)))) (ja_cons (je_v 2 fun _ => pv 2) ja_nil)) ⟨hr5, by simp, m, c, hc, hfm, okB_mono (ded_len _) (Nat.le_refl _) ok⟩) (fun ow σ P H S => ?_) scBA.nd
  refine w_ret S (je_cmp (fun _ => op_eq) rv_eqI (je_getD (w := w) (je_v 6 fun _ => pv 6) (JE.to (je_v 4 fun _ => pv 4) fun _ _ => pbs_nf) (at_dc ma) (nf_depth fa) (fun _ => room16 hr) (fun _ _ => rfl)) (je_getD (w := w) (je_v 6 fun _ => pv 6) (JE.to (je_v 5 fun _ => pv 5) fun _ _ => pbs_nf) (at_dc mb) (nf_depth fb) (fun _ => room16 hr) (fun _ _ => rfl)) (nomark _)) fun v P H S rr => kQ v P H S.gr ?_
  have e : decide ((numF r (ded [fa, fb]) fa : Int) = (numF r (ded [fa, fb]) fb : Int)) = eB r bs os := by
    have hp : ∀ f ∈ ded [fa, fb], Pos f := fun f hf => by
      rcases List.mem_cons.mp (mem_ded.mp hf) with e | e
      · rw [e, ← ha]; exact pos_form r sa.pos
      · rw [show f = fb by simpa using e, ← hb]; exact pos_form r sb.pos
    have k := numF_ok r _ hp fa ma fb mb
    have ea := E_form r sa.pos
    have eb := E_form r sb.pos
    rw [ha] at ea
    rw [hb] at eb
    have k2 : M74.E r fa fb ↔ M74.E r bs os := ⟨fun h => ea.trans (h.trans eb.symm), fun h => ea.symm.trans (h.trans eb)⟩
    cases hq : eB r bs os with
    | true =>
      have := k.mpr (k2.mpr (eB_iff.mp hq))
      rw [this]
      simp
    | false =>
      refine decide_eq_false fun z => ?_
      have z' : numF r (ded [fa, fb]) fa = numF r (ded [fa, fb]) fb := by omega
      have := eB_iff.mpr (k2.mp (k.mp z'))
      rw [hq] at this
      cases this
  show (pB (eB r bs os)).p P v
  rw [← e]
  exact rr
end
end K74
/-! A method that closes over `__class__` and begins with `super().__init__(..)`, under an own error class. -/
namespace Ly
open PySem PySem.Spec PyProof.Rows L2 PySem.W
structure FnScopeS (N ps : List Str) (sc : Scope) : Prop where
  kind : sc.kind = .function
  co : sc.isCoroutine = false
  gen : sc.isGenerator = false
  nd : N.Nodup
  pre : N.take ps.length = ps
  par : ∀ x ∈ ps, sc.names.lookup x = some .local
  free : ∀ y ∈ sc.names, y.2 = .free → y.1 = ("__class__" : Str)
  nocell : ∀ y ∈ sc.names, y.2 ≠ .cell
def cxS (CX : CXT) (P : Program) (w : World) (K : PySem.W.Frag) (mg : Str → Option Value) (base : Heap) (N : List Str) (qual : Str) (scope : Scope) (f : Addr) (cd : Value) (cc : Addr) (A : Around) (outer : List Env) (s : Shared) (H : Hp) (E : XK) : Cx where
  prog := P
  w := w
  K := K
  mg := mg
  base := base
  A := A.deeper (ksEnv qual scope s.heap.objs.size f cd cc)
  N := N
  s_0 := s
  H_0 := H
  env := ksEnv qual scope s.heap.objs.size f cd cc
  outer := outer
  stack := ksEnv qual scope s.heap.objs.size f cd cc :: outer
  ex := []
  calm := true
  fn := fun _ => false
  pn := []
  xe := fun e s' => wpAny (model P w) (A.deeper (ksEnv qual scope s.heap.objs.size f cd cc)) (leaving (ksEnv qual scope s.heap.objs.size f cd cc) e) (fun _ s'' => CX outer H s E e s'') (fun e' s'' => CX outer H s E e' s'') s'
theorem rev_lookup {x : Str} {u : Value} : ∀ {ps : List Str} {us : List Value} {i : Nat}, ps.Nodup → ps[i]? = some x → us[i]? = some u → (ps.zip us).reverse.lookup x = some u
  | [], _, _, _, h, _ => by simp at h
  | _ :: _, [], _, _, _, h => by simp at h
  | p :: ps, v :: us, i, nd, h1, h2 => by
    rw [List.zip_cons_cons, List.reverse_cons, List.lookup_append]
    cases i with
    | zero =>
      simp only [List.getElem?_cons_zero, Option.some.injEq] at h1 h2
      subst h1 h2
      have hn : (ps.zip us).reverse.lookup p = none := by
        rw [List.lookup_eq_none_iff]
        intro q hq
        have := (List.of_mem_zip (List.mem_reverse.mp hq)).1
        simp only [beq_eq_false_iff_ne, ne_eq, bne_iff_ne]
        rintro rfl
        exact (List.nodup_cons.mp nd).1 this
      rw [hn]
      simp [List.lookup]
    | succ i =>
      rw [rev_lookup (List.nodup_cons.mp nd).2 (by simpa using h1) (by simpa using h2)]
      rfl
section
variable {CX : CXT} {P : Program} {w : World} {K : PySem.W.Frag} {mg : Str → Option Value} {base : Heap} {N ps : List Str} {qual : Str} {scope : Scope} {f cc C : Addr} {cd : Value} {A : Around} {outer : List Env} {s : Shared} {H : Hp} {E : XK}
  {us : List Value} {vs : List V} {cl : Value} {cld : Option Addr} {csl : Array (Option Value)}
theorem inv_startS {h₁ : Heap} {tk : Nat} (S : FnScopeS N ps scope) (hd : A.handled = none) (e0 : Env0 P w K mg base A outer s H) (hl : vs.length = ps.length) (r : Vals vs us)
    (hc : K.lookup cc = some ⟨cl, cld, .cell (some (.ref C)), csl⟩) (hns : h₁.Ns s.heap.objs.size (fun x => (ps.zip us).reverse.lookup x)) (hk : ∀ b o, s.heap.get? b = some o → h₁.get? b = some o) :
    Inv (cxS CX P w K mg base N qual scope f cd cc A outer s H E) [] (L2.start N vs) H { s with heap := h₁, toks := tk } := by
  have hpl : ps.length ≤ N.length := by have := congrArg List.length S.pre; rw [List.length_take] at this; omega
  have noA : ∀ b : Addr, b ∉ (cxS CX P w K mg base N qual scope f cd cc A outer s H E).ex := fun b z => absurd (show b ∈ ([] : List Addr) from z) (by simp)
  have hcc : base.get? cc = some ⟨cl, cld, .cell (some (.ref C)), csl⟩ := e0.mod.kin _ _ hc
  have lk1 : ∀ {y : Str} {c : Addr}, (ksEnv qual scope s.heap.objs.size f cd cc).cells.lookup y = some c → y = "__class__" ∧ c = cc := fun {y c} h => by
    have h' : ([("__class__", cc)] : List (Str × Addr)).lookup y = some c := h
    by_cases e : y = ("__class__" : Str)
    · subst e
      rw [List.lookup_cons_self] at h'
      exact ⟨rfl, (Option.some.inj h').symm⟩
    · have e' : (y == ("__class__" : Str)) = false := by simpa using e
      rw [List.lookup_cons, e'] at h'
      cases h'
  have bcc := e0.bs _ _ hcc
  refine ⟨⟨e0.mod, S.kind, rfl, rfl, Nat.le_refl _, fun y z c h1 h2 => ?_, fun y hy => ?_, fun y c z _ => Bool.noConfusion (show false = true from z), fun _ => hd, Around.frames_deeper e0.frames, .inr ⟨rfl, rfl⟩, fun b z => absurd z (noA b), e0.bs, e0.bsz, fun b _ _ => noA b, fun b z => absurd z (noA b), e0.funs, e0.frf⟩,
    rfl, e0.bare, Un.kept hk, ⟨_, hns, fun i y v h1 h2 h3 => ?_⟩, fun y c h => ?_, e0.hok.fresh (Nat.le_refl _), fun y c h => ?_, fun p hp => absurd (show p ∈ ([] : List (Addr × Obj)) from hp) (by simp), e0.hok.kept hk, ?_⟩
  · exact (lk1 h1).1.trans (lk1 h2).1.symm
  · have hy : scope.names.lookup y = some .cell ∨ scope.names.lookup y = some .free := hy
    rcases hy with hy | hy
    · exact absurd rfl (S.nocell _ (PySem.mem_of_lookup hy))
    · have e := S.free _ (PySem.mem_of_lookup hy) rfl
      have e : y = ("__class__" : Str) := e
      subst e
      exact ⟨cc, rfl⟩
  · have hi : i < vs.length := by
      unfold L2.start at h2
      by_cases hi : i < vs.length
      · exact hi
      · rw [List.getElem?_append_right (by simpa using hi)] at h2
        rw [List.getElem?_replicate] at h2
        split at h2 <;> cases h2
    have ha : vs[i]? = some v := by
      unfold L2.start at h2
      rw [List.getElem?_append_left (by simpa using hi), List.getElem?_map] at h2
      cases e : vs[i]? with
      | none => rw [e] at h2; cases h2
      | some a => rw [e] at h2; cases h2; rfl
    obtain ⟨u, hu, rv⟩ := r.get ha
    have hp : ps[i]? = some y := by
      rw [← S.pre, List.getElem?_take_of_lt (by omega)]; exact h1
    have ndP : ps.Nodup := by rw [← S.pre]; exact S.nd.sublist (List.take_sublist _ _)
    exact ⟨u, rv, .inl ⟨S.par y (List.mem_of_getElem? hp), rev_lookup ndP hp hu⟩⟩
  · obtain ⟨_, rfl⟩ := lk1 h
    exact ⟨some (.ref C), _, hk _ _ bcc.1, rfl⟩
  · obtain ⟨_, rfl⟩ := lk1 h
    exact bcc.2
  · unfold L2.start
    show _ = N.length
    rw [List.length_append, List.length_map, List.length_replicate]
    omega
/-- what is told of such a method, its class and the program -/
structure SupOk (P : Program) (K : PySem.W.Frag) (mg : Str → Option Value) (C f cc cda : Addr) (N : List Str) (scope : Scope) (ar : Arg) : Prop where
  sup : ks_superIn K C C "__init__" = some (some (.builtin "ValueError.__init__"))
  sub : PySem.W.subIn K (.ref C) (.type "ValueError") = some true
  mro : mroIn K C (.ref C) = some true
  op : nsIn K cStatics "thirdparty.any" = some none
  mgs : mg "super" = none
  ks : scope.names.lookup ("super" : Str) = some .globalImplicit
  kc : scope.names.lookup ("__class__" : Str) = some .free
  ka : scope.names.lookup ar.arg = some .local
  n0 : N[0]? = some ar.arg
  top : (P.main.scope.names.lookup ("super" : Str)).isSome = false
  code : ∃ ccl cdd vs ccs file tf, K.lookup cda = some ⟨ccl, cdd, .fields vs, ccs⟩ ∧ vs[2]? = some (.str file tf) ∧ ((P.main.file : Str) == file) = true
/-- the wrapper called: ValueError.__init__ of the exception -/
theorem wrap_ok {X : Cx} {pins : List (Addr × Obj)} {σ : L2.St} {H : Hp} {s : Shared} {a u C : Addr} {us : List Value} {Q : Value → Shared → Prop} {E : Value → Shared → Prop} {A : Around} (T : OexC X.K C) (I : Inv X pins σ H s) (e : H a = some (exo a C none)) (hu : s.heap.get? u = some (kxs_mw "ValueError.__init__" a)) (hl : us.length ≤ sizeLine)
    (h : ∀ s', Inv X pins σ H s' → Q .none s') : wpAny (model X.prog X.w) A (call (.ref u) us) Q E s := by
  obtain ⟨nm, q, N, bs, bm, sn, sub, ab, col, dd, k0, k1, k2, k3, k5, hC, hbm⟩ := T.cls
  obtain ⟨t1, ho⟩ := exo_at I.hok e
  have hCs := I.kIn _ _ hC
  obtain ⟨hp, g, d, t, os⟩ := s
  refine wpAny_call (codeAny_of_tree ?_)
  show wpAny _ A.in1 (callAny (.ref u) ⟨us, []⟩) _ _ _
  simp only [callAny]
  refine wpAny_bind (wpAny_load hu ?_)
  simp only [kxs_mw, show (Value.type "method-wrapper" == Value.type "method" || Value.type "method-wrapper" == Value.type "builtin_function_or_method" || Value.type "method-wrapper" == Value.type "method-wrapper") = true by decide, if_true]
  refine KFB.if_so (by decide) ?_
  refine wpAny_bind (PySem.W.check_bound_init F.excBase_ValueError.toExcCallFacts hCs ho rfl ?_)
  refine wpAny_bind (wpAny_pure (wpAny_pure ?_))
  refine ⟨plainId_quiet F.excBase_ValueError.init.plain _, codeAny_builtin F.excBase_ValueError.initEntry ?_⟩
  refine exc_init_tree (cls := .ref C) (t0 := t1) (dv := none) (c2 := .none) (c3 := .none) (b4 := .bool false) ho hl fun h' k hx _ => ?_
  have J := I.write (t' := t) (x := a) (e := a) (o := exo a C none) (by rw [e]; exact True.intro) (.inl rfl) k ⟨_, hx⟩ (exo_ok hx)
  have eu : upd H a (exo a C none) = H := by
    funext b
    by_cases hb : b = a
    · rw [hb, upd_same, e]
    · rw [upd_ne hb]
  rw [eu] at J
  exact h _ J
end
section
variable {CX : CXT} {P : Program} {w : World} {K : PySem.W.Frag} {mg : Str → Option Value} {base : Heap} {k : Nat} {f cc C cda : Addr} {name qual : Str} {params : Arguments} {scope : Scope} {dV kV doc pm ct oc : Value} {an od : Option Addr}
  {osl : Array (Option Value)} {N ps : List Str} {sp : Sp} {e : Expr} {es : List Expr} {rest : List Stmt} {p0 p1 p2 p3 p4 : Pos} {ar : Arg} {cl : Value} {cld : Option Addr} {csl : Array (Option Value)}
theorem fn_super (lk : K.lookup f = some ⟨oc, od, .func (ksFn name qual params (.Expr (.Call (.Attribute (.Call (.Name "super" p0) [] [] p1) "__init__" p2) (e :: es) [] p3) p4 :: rest) scope dV kV doc pm an (.ref cda) ct cc), osl⟩)
    (hcd : codeIn K (.ref cda) qual = true) (S : FnScopeS N ps scope) (hc : K.lookup cc = some ⟨cl, cld, .cell (some (.ref C)), csl⟩) (T : OexC K C) (O : SupOk P K mg C f cc cda N scope ar) (hp : (params.posonlyargs ++ params.args).head? = some ar)
    (len : ∀ vs H Q E, sp vs H Q E → vs.length = ps.length)
    (hbody : ∀ (A : Around) (outer : List Env) (s : Shared) (H : Hp) (vs : List V) (Q : VK) (E : XK), Room k (A.deeper (ksEnv qual scope s.heap.objs.size f (.ref cda) cc)) → sp vs H Q E →
      ∃ (ta : TA) (t : TS) (a : Addr) (vr : List V), vs = .ref a :: vr ∧ H a = some (exo a C none) ∧ PA (cxS CX P w K mg base N qual scope f (.ref cda) cc A outer s H E) (e :: es) ta ∧ PSs (cxS CX P w K mg base N qual scope f (.ref cda) cc A outer s H E) rest t ∧
        ta (L2.start N vs) H fun ws H1 => ws.length ≤ 1000 ∧ H1 a = some (exo a C none) ∧ t { nx := fun _ H' => Q .non H', rt := Q } (L2.start N vs) H1)
    (pl : Addr → Sem Bool)
    (hev : ∀ L, eval (.Call (.Attribute (.Call (.Name "super" p0) [] [] p1) "__init__" p2) (e :: es) [] p3) (ksEnv qual scope L f (.ref cda) cc) = (do
      let ov ← attributeBase (.Call (.Name "super" p0) [] [] p1) "__init__" (ksEnv qual scope L f (.ref cda) cc) (eval (.Call (.Name "super" p0) [] [] p1) (ksEnv qual scope L f (.ref cda) cc))
      standAt p2.atName
      let (f', first) ← holding [ov] (getMethod ov "__init__" (pl L))
      callWith p3 f' first (backTo p3 (starEach (e :: es) (ksEnv qual scope L f (.ref cda) cc))) []))
    (he : ∀ L, starEach (e :: es) (ksEnv qual scope L f (.ref cda) cc) = (false, eval e (ksEnv qual scope L f (.ref cda) cc)) :: starEach es (ksEnv qual scope L f (.ref cda) cc) := by intro _; rfl)
    (hpl : ∀ L, (backTo p3 (starEach es (ksEnv qual scope L f (.ref cda) cc))).any (·.1) = false := by intro _; rfl)
    (hsw : ∀ L, swapsWith (.Call (.Attribute (.Call (.Name "super" p0) [] [] p1) "__init__" p2) (e :: es) [] p3) none p4.line (ksEnv qual scope L f (.ref cda) cc) = pure false := by intro _; rfl)
    (hint : ∀ L, interactive (ksEnv qual scope L f (.ref cda) cc) = false := by intro _; rfl) :
    FnOk P w K mg base CX (k + 1) f (ksFn name qual params (.Expr (.Call (.Attribute (.Call (.Name "super" p0) [] [] p1) "__init__" p2) (e :: es) [] p3) p4 :: rest) scope dV kV doc pm an (.ref cda) ct cc) ps sp := by
  refine ⟨len, fun A outer s H args us vs Q E hr e0 hb r hsp => ?_⟩
  have hl := len _ _ _ _ hsp
  have KX : K.In s.heap := e0.mod.kin.keeps fun b o e => (e0.bs b o e).1
  have lim : s.heap.NoLimit := e0.mod.nolimit.keeps fun b o e => (e0.bs b o e).1
  refine ks_codeAny_call_defAt (fd := ksFn name qual params (.Expr (.Call (.Attribute (.Call (.Name "super" p0) [] [] p1) "__init__" p2) (e :: es) [] p3) p4 :: rest) scope dV kV doc pm an (.ref cda) ct cc) hr.depth (KX _ _ lk) rfl lim (codeRec_of KX hcd) rfl hb S.nocell
    (fun y hy => S.par _ (List.of_mem_zip (show (y.1, y.2) ∈ ps.zip us from hy)).1) (fun h₁ hns hk => ?_) S.co S.gen S.kind
  obtain ⟨ta, t, a, vr, hv, ha, hA, hS, hq⟩ := hbody A outer s H vs Q E (hr.deeper _) hsp
  have I : Inv (cxS CX P w K mg base N qual scope f (.ref cda) cc A outer s H E) [] (L2.start N vs) H { s with heap := h₁, toks := s.toks + (ps.zip us).length } := inv_startS S hr.hd e0 hl r hc hns hk
  refine ks_wpAt_execs_cons (ks_wpAt_Expr_any (ks_wpAt_MethodCall (pl := pl _) ?_ (hev _)) (hint _) (hsw _))
  obtain ⟨ccl, cdd, cvs, ccs, file, tf, hcode, hvs, hfile⟩ := O.code
  obtain ⟨m, hm, look⟩ := I.loc
  have hself : m ar.arg = some (.ref a) := by
    have h0 : (L2.start N vs)[0]? = some (some (.ref a)) := by rw [hv]; rfl
    obtain ⟨u, ru, lo⟩ := look 0 ar.arg (.ref a) O.n0 h0 (.inl O.ka)
    obtain rfl : u = Value.ref a := ru
    rcases lo with ⟨_, h⟩ | ⟨h, _⟩
    · exact h
    · have h' : scope.names.lookup ar.arg = some .cell ∨ scope.names.lookup ar.arg = some .free := h
      rw [O.ka] at h'
      rcases h' with h' | h' <;> cases h'
  obtain ⟨nm, q, Nn, bs, bm, sn, sub, ab, col, dd, k0, k1, k2, k3, k5, hCo, hbm⟩ := T.cls
  obtain ⟨t1, ho⟩ := exo_at I.hok ha
  have X1 := I.kIn
  have I1 : InstAt h₁ a ({ cls := .ref C, dict := none, data := .fields #[.ref t1, .none, .none, .none, .bool false, .none] } : Obj) C none := ⟨ho, rfl, rfl, trivial⟩
  have hcl : clsIn K C = some { name := nm, bases := bs, mro := .ref C :: bm, ns := Nn, qualname := q, hasDict := true, slotNames := sn, subclasses := sub, abstract := ab, collection := col, hasDel := false } := by unfold PySem.W.clsIn; rw [hCo] <;> rfl
  obtain ⟨mb, hb1, hb2⟩ := I.mod.blt
  refine ks_wpAt_super_base (env := ksEnv qual scope s.heap.objs.size f (.ref cda) cc) O.ks O.kc (by decide) rfl (X1 _ _ lk) rfl hp rfl (X1 _ _ hcode) rfl hvs hfile O.top ?_
  refine ks_loadName_global S.kind O.ks (Calls.loadGlobal_builtin (env := ksEnv qual scope s.heap.objs.size f (.ref cda) cc) (I.mod.glob.keeps I.bk) O.mgs (hb1.keeps I.bk) ((hb2 _ (by decide +kernel)).trans (by decide +kernel)) ⟨rfl, ?_⟩)
  refine wpAny_loadName_free S.kind O.kc rfl ⟨_, X1 _ _ hc, rfl⟩ ?_
  refine wpAny_loadName_local S.kind O.ka hm hself ?_
  refine ks_wpAny_isType_cls (X1 _ _ hCo) rfl ⟨rfl, ?_⟩
  refine ks_wpAny_call_super (X1 _ _ hCo) rfl ho rfl (fun c e => nomatch e) (looks_mroIn X1 O.mro) (fun h2 e2 kk2 => ?_)
  have I2 : Inv (cxS CX P w K mg base N qual scope f (.ref cda) cc A outer s H E) [] (L2.start N vs) H { s with heap := h2, toks := s.toks + (ps.zip us).length } := I.kept (h' := h2) (t' := s.toks + (ps.zip us).length) kk2
  have X2 := I2.kIn
  have ho2 := kk2 _ _ ho
  have hI2 : Looks (model P w) h2 (isInstance (.ref a) (.type "ValueError")) true := (show InstAt h2 a _ C none from ⟨ho2, rfl, rfl, trivial⟩).type.andThen (looks_subIn X2 O.sub)
  have hf : alongIn K "__init__" (((Value.ref C :: bm).dropWhile (· != .ref C)).drop 1) = some (some (.builtin "ValueError.__init__")) := by
    have h := O.sup
    unfold ks_superIn at h
    rw [hcl] at h
    exact h
  refine kxs_getMethod kxs_ValueError e2 (looks_opaque X2 O.op) (l₀ := .ref C :: bm) (fun A Q E s k q => wpAny_bind ((looks_clsIn X2 hcl) A _ E s k (wpAny_pure q))) rfl X2 hf hI2 (ks_ne X1 I1 hcl) (by decide) ?_
  have I3 : Inv (cxS CX P w K mg base N qual scope f (.ref cda) cc A outer s H E) [] (L2.start N vs) H { s with heap := h2.push (kxs_mw "ValueError.__init__" a), toks := s.toks + (ps.zip us).length + 1 } :=
    I2.kept (h' := h2.push (kxs_mw "ValueError.__init__" a)) (t' := s.toks + (ps.zip us).length + 1) fun b o z => Heap.get?_push_of_some _ z
  have I4 : Inv (cxS CX P w K mg base N qual scope f (.ref cda) cc A outer s H E) [(h2.objs.size, kxs_mw "ValueError.__init__" a)] (L2.start N vs) H { s with heap := h2.push (kxs_mw "ValueError.__init__" a), toks := s.toks + (ps.zip us).length + 1 } := I3.pins_of fun p hp => by
    obtain rfl := List.mem_singleton.mp hp
    exact ⟨Heap.get?_push_size _ rfl, I2.hok.fresh (Nat.le_refl _), Nat.ne_of_gt I2.lt, I2.nofs (Nat.le_refl _), fun v z => nomatch z⟩
  show wpAny _ _ (callWith p3 (.ref h2.objs.size) [] (backTo p3 (starEach (e :: es) (ksEnv qual scope s.heap.objs.size f (.ref cda) cc))) []) _ _ _
  have run := hA.run p3 _ _ _ _ _ I4 hq
  have he' := he s.heap.objs.size
  have hpl' := hpl s.heap.objs.size
  have run2 : wpAny (model P w) (A.deeper (ksEnv qual scope s.heap.objs.size f (.ref cda) cc)) (spliced (backTo p3 (starEach (e :: es) (ksEnv qual scope s.heap.objs.size f (.ref cda) cc)))) (fun us1 s₁ => KxsAt "ValueError.__init__" h2.objs.size a s₁.heap ∧ wpAny (model P w) (A.deeper (ksEnv qual scope s.heap.objs.size f (.ref cda) cc)) (call (.ref h2.objs.size) us1)
      (fun _ s' => _root_.PySem.wpAt (model P w) (A.deeper (ksEnv qual scope s.heap.objs.size f (.ref cda) cc)) (.func (.Expr (.Call (.Attribute (.Call (.Name "super" p0) [] [] p1) "__init__" p2) (e :: es) [] p3) p4 :: rest) (ksEnv qual scope s.heap.objs.size f (.ref cda) cc)) (execs rest (ksEnv qual scope s.heap.objs.size f (.ref cda) cc))
        (fun f' s' => CR CX outer P w H s Q E (.ok (.ret (match f' with | .ret v => v | _ => .none))) s')
        (cxS CX P w K mg base N qual scope f (.ref cda) cc A outer s H E).xe s') (cxS CX P w K mg base N qual scope f (.ref cda) cc A outer s H E).xe s₁) (cxS CX P w K mg base N qual scope f (.ref cda) cc A outer s H E).xe { s with heap := h2.push (kxs_mw "ValueError.__init__" a), toks := s.toks + (ps.zip us).length + 1 } := by
    refine thn run fun us1 s1 ⟨ws, H1, J1, r1, hz, ea1, q1⟩ => ⟨(J1.pin _ (List.mem_append_right _ (List.mem_singleton.mpr rfl))).1, ?_⟩
    refine wrap_ok T J1 ea1 (J1.pin _ (List.mem_append_right _ (List.mem_singleton.mpr rfl))).1 (by rw [← Paired.length r1, sizeLine_eq]; omega) fun s2 J2 => ?_
    have J3 : Inv (cxS CX P w K mg base N qual scope f (.ref cda) cc A outer s H E) [] (L2.start N vs) H1 s2 := J2.pins_of fun p hp => absurd hp (by simp)
    refine wpAt_of_wpAny (wpAny_mono (hS.run [] s2 (L2.start N vs) H1 _ J3 q1) (fun fl s' hs => ?_) fun e s' hs => hs)
    have fin : ∀ {σ' : L2.St} {H' : Hp} {v : V} {u : Value}, Inv (cxS CX P w K mg base N qual scope f (.ref cda) cc A outer s H E) [] σ' H' s' → RelV v u → Q v H' → CE outer P w H s Q u s' :=
      fun {σ' H' v u} J rv q => ⟨v, H', J.os, J.bare, J.base, J.hok, rv, q⟩
    cases fl with
    | ret u =>
      obtain ⟨v, σ', H', J, rv, q⟩ := hs
      exact fin J rv q
    | next =>
      obtain ⟨σ', H', J, q⟩ := hs
      exact fin (v := V.non) (u := Value.none) J rfl q
    | brk =>
      obtain ⟨_, _, _, q⟩ := hs
      exact False.elim q
    | cont =>
      obtain ⟨_, _, _, q⟩ := hs
      exact False.elim q
  rw [he'] at run2 ⊢
  refine kxs_callWith (i := "ValueError.__init__") (x := a) (by show (false || (backTo p3 (starEach es _)).any (·.1)) = false; rw [hpl']; rfl) ?_
  exact Calls.evalArgs_plain run2
end
end Ly
/-! Own errors: what their `__init__` promises, how they are raised. -/
namespace Ly
open PySem PySem.Spec PyProof.Rows L2
section
variable {X : Cx}
/-- {t}, t a pair of whole numbers -/
def tFmtP (K : PySem.W.Frag) (te : TE) : TE := fun σ H Q => te σ H fun x H1 => ∃ (a : Addr) (i j : Int), x = .ref a ∧ SqT K H1 a [.int i, .int j] ∧ i.natAbs.log2 < 1920 ∧ j.natAbs.log2 < 1920 ∧ ∀ m : Str, m.length ≤ 5000 → Q (.str m) H1
theorem pe_fmtP {e : Expr} {te : TE} {pos : Pos} {k : Nat} (hr : Room k X.A) (he : PE X e te) : PE X (.FormattedValue e (-1) none pos) (tFmtP X.K te) := by
  refine ⟨fun pins s σ H Q I h => ?_⟩
  refine wpAny_FormattedValue_plain (thn (he.run pins s σ H _ I h) fun v s1 hv => ?_)
  obtain ⟨x, H1, I1, r1, a, i, j, rfl, ht, hi, hj, q⟩ := hv
  cases r1
  obtain ⟨its, rv, ⟨o, ho, hcl, n, hd⟩, _⟩ := I1.tuple ht
  have hu := hr.units
  have ra : ReprAll X.prog X.w its [(toString i : Str), (toString j : Str)] := by
    cases rv with
    | cons r1 r2 => cases r2 with
      | cons r2 r3 =>
        cases r3
        obtain ⟨t1, rfl⟩ := r1
        obtain ⟨t2, rfl⟩ := r2
        exact .cons (ReprIs.int t1 hi) (.cons (ReprIs.int t2 hj) .nil)
  have l1 := int_text_len_1921 hi
  have l2 := int_text_len_1921 hj
  have hp := fmt_text [(toString i : Str), (toString j : Str)]
  have hp2 : piled [(toString i : Str), (toString j : Str)] ≤ 4000 := by
    rw [piled_cons, piled_cons]
    show _ + (_ + 0) ≤ _
    omega
  refine fmt_tuple (ts := [(toString i : Str), (toString j : Str)]) (by omega) ho hcl hd ra (by rw [sizeLine_eq]; omega) fun m u tk hm => ⟨.str m, H1, I1.tok _, ⟨u, rfl⟩, q m (by omega)⟩
end
section
variable {X : Cx}
/-- the name of a built-in type -/
theorem pe_ty {x : Str} {T : String} {pos : Pos} (hg : Gl X x) (hm : X.mg x = none) (hv : bootBuiltins x = some (.type T)) (hn : x ≠ "__name__" := by decide) (hdb : (x == ("__debug__" : Str)) = false := by decide) : PE X (.Name x pos) (tC (.ty T)) :=
  ⟨fun pins s σ H Q I h => ld_blt I hg hm hv ⟨.ty T, H, I, rfl, h⟩ hn hdb⟩
end
theorem ty_sqT {K : PySem.W.Frag} {H : Hp} {a : Addr} {xs : List V} (h : SqT K H a xs) : TyX K H (.ref a) (.type "tuple") := by
  rcases h with (h | ⟨o, h⟩) | ⟨o, its, n, h1, h2, _⟩
  · exact .base (.tup h)
  · exact .fTuple h
  · exact .kTuple h1 h2
theorem ty_sqL {K : PySem.W.Frag} {H : Hp} {a : Addr} {xs : List V} (h : SqL K H a xs) : TyX K H (.ref a) (.type "list") := by
  rcases h with (h | ⟨o, h⟩) | ⟨o, its, n, h1, h2, _⟩
  · exact .base (.lst h)
  · exact .base (.frz h)
  · exact .kList h1 h2
section
variable {ι : Type} {F : ι → Cx} {K : PySem.W.Frag} {ss ss1 : List Sl} {R : Pr} {p p2 pos : Pos} {e : Expr} {t : Value} {T : String} {x : Str} {b : Bool}
/-- isinstance(e, T), T a built-in type -/
theorem je_isi (ha : JE F e ss R ss1) (hT : ∀ (P H : Hp) (v : V), Ld P H → R.p P v → TyX K H v t) (hk : PySem.W.kitOne K t (.type T) = some b) (hm : ∀ i, (F i).mg "isinstance" = none) (hm2 : ∀ i, (F i).mg x = none) (hv : bootBuiltins x = some (.type T))
    (hg : ∀ i, Gl (F i) "isinstance" := by intro _; rfl) (hg2 : ∀ i, Gl (F i) x := by intro _; rfl) (hn : x ≠ "__name__" := by decide) (hdb : (x == ("__debug__" : Str)) = false := by decide)
    (he : ∀ i, starEach [e, .Name x p2] (F i).env = (false, eval e (F i).env) :: starEach [.Name x p2] (F i).env := by intro _; rfl) (he2 : ∀ i, starEach [.Name x p2] (F i).env = (false, eval (.Name x p2) (F i).env) :: starEach [] (F i).env := by intro _; rfl)
    (hpl : ∀ i, (backTo pos (starEach [.Name x p2] (F i).env)).any (·.1) = false := by intro _; rfl) (hK : ∀ i, (F i).K = K := by intro _; rfl) : JE F (.Call (.Name "isinstance" p) [e, .Name x p2] [] pos) ss (pB b) ss1 :=
  je_cb (r := rIsi K) (fun i => hK i ▸ call_isi) (Rs := [R, pV (.ty T)]) (fun P H vs Q l r k => by
    obtain ⟨v, w, rfl, r1, rfl⟩ := pl2 r
    exact ⟨v, .ty T, t, .type T, b, rfl, .ty T, hT P H v l r1, hk, k _ P H (Gr.refl l) rfl⟩)
    (ja_cons ha (ja_cons (je_c fun i => pe_ty (hg2 i) (hm2 i) hv hn hdb) ja_nil he2) he) hm (by decide +kernel) hg (by decide) (by decide) he hpl
end
/-! ### what the `__init__` of such an error promises: its one field -/
def spIn (C : Addr) (f : Str) (okv : Hp → V → Prop) : Sp := fun vs H Q _ => ∃ (a : Addr) (y : V), vs = [.ref a, y] ∧ H a = some (exo a C none) ∧ okv H y ∧ ∀ dx, H dx = none → dx ≠ a → Q .non (upd (upd H dx (exd dx [(f, y)])) a (exo a C (some dx)))
def okI : Hp → V → Prop := fun _ y => ∃ i : Int, y = .int i ∧ i.natAbs.log2 < 1920
def okPl (K : PySem.W.Frag) : Hp → V → Prop := fun H y => ∃ (p : Addr) (i j : Int), y = .ref p ∧ SqT K H p [.int i, .int j] ∧ i.natAbs.log2 < 1920 ∧ j.natAbs.log2 < 1920
end Ly
/-! The errors of law_k74_line_rounds: their `__init__`. -/
namespace K74
abbrev PP : PySem.Program := PySem.Challenge.pw_framesays_k74_line_rounds
open PySem PySem.Spec PyProof.Rows L2 Ly M74
/-- such a method, as it stands behind the top -/
structure SupFun (K : PySem.W.Frag) (x qual : Str) (st : Stmt) (C f : Addr) (fd : FuncData) : Prop where
  ex : ∃ (oc : Value) (od : Option Addr) (kV doc pm : Value) (an : Option Addr) (ct : Value) (osl : Array (Option Value)) (cc cda : Addr) (cl : Value) (cld : Option Addr) (csl : Array (Option Value)) (ccl : Value) (cdd : Option Addr) (vs : Array Value) (ccs : Array (Option Value)) (file : Str) (tf : Tok),
    fd = PySem.W.ksFn x qual (defArgs st) (defBody st) (defScope st) .none kV doc pm an (.ref cda) ct cc ∧ K.lookup f = some ⟨oc, od, .func fd, osl⟩ ∧ PySem.W.codeIn K (.ref cda) qual = true ∧ K.lookup cc = some ⟨cl, cld, .cell (some (.ref C)), csl⟩ ∧
      K.lookup cda = some ⟨ccl, cdd, .fields vs, ccs⟩ ∧ vs[2]? = some (.str file tf) ∧ ((PySem.Challenge.pw_framesays_k74_line_rounds.main.file : Str) == file) = true
structure SupCls (K : PySem.W.Frag) (mg : Str → Option Value) (C : Addr) : Prop where
  oex : OexC K C
  sup : PySem.W.ks_superIn K C C "__init__" = some (some (.builtin "ValueError.__init__"))
  sub : PySem.W.subIn K (.ref C) (.type "ValueError") = some true
  mro : PySem.W.mroIn K C (.ref C) = some true
  op : PySem.W.nsIn K cStatics "thirdparty.any" = some none
  mgs : mg "super" = none
abbrev sCount : Stmt := inClass (top 2) 0
abbrev sPlace : Stmt := inClass (top 3) 0
abbrev sApart : Stmt := inClass (top 5) 0
section
variable {w : World} {K : PySem.W.Frag} {mg : Str → Option Value} {base : Heap} {C f : Addr} {fd : FuncData}
theorem scCount : FnScopeS ["self", "count"] ["self", "count"] (defScope sCount) := ⟨rfl, rfl, rfl, by decide +kernel, rfl, by decide +kernel, by decide +kernel, by decide +kernel⟩
theorem scPlace : FnScopeS ["self", "place"] ["self", "place"] (defScope sPlace) := ⟨rfl, rfl, rfl, by decide +kernel, rfl, by decide +kernel, by decide +kernel, by decide +kernel⟩
theorem scApart : FnScopeS ["self", "rounds"] ["self", "rounds"] (defScope sApart) := ⟨rfl, rfl, rfl, by decide +kernel, rfl, by decide +kernel, by decide +kernel, by decide +kernel⟩
theorem ok_iCount (F : SupFun K "__init__" "BadCount.__init__" sCount C f fd) (U : SupCls K mg C) (hno : PySem.W.findIn K (.ref C) "count" = some none) : FnOk PP w K mg base (L2.CX PP w) 1 f fd ["self", "count"] (spIn C "count" okI) := by
  obtain ⟨oc, od, kV, doc, pm, an, ct, osl, cc, cda, cl, cld, csl, ccl, cdd, cvs, ccs, file, tf, rfl, lk, hcd, hcc, hcode, hv2, hfile⟩ := F.ex
  refine fn_super (k := 0) lk hcd scCount hcc U.oex (ar := ⟨"self", none, _⟩) ⟨U.sup, U.sub, U.mro, U.op, U.mgs, rfl, rfl, rfl, rfl, by decide +kernel, ⟨_, _, _, _, _, _, hcode, hv2, hfile⟩⟩ rfl (fun vs H Q E h => ?_) (fun A outer s H vs Q E hr h => ?_) _ (fun _ => rfl) (fun _ => rfl) (fun _ => rfl) (fun _ => rfl) (fun _ => rfl)
  · obtain ⟨a, y, rfl, _⟩ := h
    rfl
  · obtain ⟨a, y, rfl, ha, ⟨i, rfl, hi⟩, q⟩ := h
    have hl := int_text_len_1921 hi
    have hz := sizeLine_eq
    refine ⟨_, _, a, [.int i], rfl, ha, pa_cons (pe_joined (.cons pe_str (.cons (pe_fmt (pv 1)) .nil))) pa_nil, pss_one (ps_ost (pv 0) (pv 1)), ?_⟩
    refine ⟨_, rfl, by decide +kernel, V.int i, rfl, .inr ⟨i, rfl, hi, _, rfl, ?_, ?_⟩⟩
    · rw [strLen_append]
      have : (Str.empty ++ ("the number is out of its range: " : Str)).length ≤ 100 := by decide +kernel
      omega
    · exact ⟨by show (1 : Nat) ≤ 1000; omega, ha, V.int i, rfl, V.ref a, rfl, a, C, rfl, U.oex, hno, .inl ⟨ha, fun dx h1 h2 => q dx h1 h2⟩⟩
theorem ok_iApart (F : SupFun K "__init__" "Apart.__init__" sApart C f fd) (U : SupCls K mg C) (hno : PySem.W.findIn K (.ref C) "rounds" = some none) : FnOk PP w K mg base (L2.CX PP w) 1 f fd ["self", "rounds"] (spIn C "rounds" okI) := by
  obtain ⟨oc, od, kV, doc, pm, an, ct, osl, cc, cda, cl, cld, csl, ccl, cdd, cvs, ccs, file, tf, rfl, lk, hcd, hcc, hcode, hv2, hfile⟩ := F.ex
  refine fn_super (k := 0) lk hcd scApart hcc U.oex (ar := ⟨"self", none, _⟩) ⟨U.sup, U.sub, U.mro, U.op, U.mgs, rfl, rfl, rfl, rfl, by decide +kernel, ⟨_, _, _, _, _, _, hcode, hv2, hfile⟩⟩ rfl (fun vs H Q E h => ?_) (fun A outer s H vs Q E hr h => ?_) _ (fun _ => rfl) (fun _ => rfl) (fun _ => rfl) (fun _ => rfl) (fun _ => rfl)
  · obtain ⟨a, y, rfl, _⟩ := h
    rfl
  · obtain ⟨a, y, rfl, ha, ⟨i, rfl, hi⟩, q⟩ := h
    have hl := int_text_len_1921 hi
    have hz := sizeLine_eq
    refine ⟨_, _, a, [.int i], rfl, ha, pa_cons (pe_joined (.cons pe_str (.cons (pe_fmt (pv 1)) (.cons pe_str .nil)))) pa_nil, pss_one (ps_ost (pv 0) (pv 1)), ?_⟩
    have l1 : (Str.empty ++ ("apart after " : Str)).length ≤ 100 := by decide +kernel
    have l2 : (" rounds" : Str).length ≤ 100 := by decide +kernel
    refine ⟨_, rfl, by omega, V.int i, rfl, .inr ⟨i, rfl, hi, _, rfl, ?_, _, rfl, ?_, ?_⟩⟩
    · rw [strLen_append]
      omega
    · rw [strLen_append, strLen_append]
      omega
    · exact ⟨by show (1 : Nat) ≤ 1000; omega, ha, V.int i, rfl, V.ref a, rfl, a, C, rfl, U.oex, hno, .inl ⟨ha, fun dx h1 h2 => q dx h1 h2⟩⟩
theorem ok_iPlace (F : SupFun K "__init__" "BadPlace.__init__" sPlace C f fd) (U : SupCls K mg C) (hno : PySem.W.findIn K (.ref C) "place" = some none) (b : Bt mg) : FnOk PP w K mg base (L2.CX PP w) 1 f fd ["self", "place"] (spIn C "place" (okPl K)) := by
  obtain ⟨oc, od, kV, doc, pm, an, ct, osl, cc, cda, cl, cld, csl, ccl, cdd, cvs, ccs, file, tf, rfl, lk, hcd, hcc, hcode, hv2, hfile⟩ := F.ex
  refine fn_super (k := 0) lk hcd scPlace hcc U.oex (ar := ⟨"self", none, _⟩) ⟨U.sup, U.sub, U.mro, U.op, U.mgs, rfl, rfl, rfl, rfl, by decide +kernel, ⟨_, _, _, _, _, _, hcode, hv2, hfile⟩⟩ rfl (fun vs H Q E h => ?_) (fun A outer s H vs Q E hr h => ?_) _ (fun _ => rfl) (fun _ => rfl) (fun _ => rfl) (fun _ => rfl) (fun _ => rfl)
  · obtain ⟨a, y, rfl, _⟩ := h
    rfl
  · obtain ⟨a, y, rfl, ha, ⟨p, i, j, rfl, hp, hi, hj⟩, q⟩ := h
    have hz := sizeLine_eq
    have l1 : (Str.empty ++ ("there is no such place: " : Str)).length ≤ 100 := by decide +kernel
    refine ⟨_, _, a, [.ref p], rfl, ha, pa_cons (pe_joined (.cons pe_str (.cons (pe_fmtP hr (pv 1)) .nil))) pa_nil, pss_one (ps_ost (pv 0) (pe_ifExp (pt_val (pe_callB (id := "isinstance") call_isi rfl b.isinstance (by decide +kernel) (pa_cons (pv 1) (pa_cons (pe_ty (T := "list") rfl b.list (by decide +kernel)) pa_nil))))
      (pe_callTy (T := "tuple") call_tuple_of rfl b.tuple (by decide +kernel) (pa_cons (pv 1) pa_nil)) (pv 1))), ?_⟩
    refine ⟨_, rfl, by omega, V.ref p, rfl, p, i, j, rfl, hp, hi, hj, fun m hm => ⟨m, rfl, ?_, ?_⟩⟩
    · rw [strLen_append]
      omega
    · refine ⟨by show (1 : Nat) ≤ 1000; omega, ha, V.ref p, rfl, ?_⟩
      refine ⟨V.ref p, .ty "list", .type "tuple", .type "list", false, rfl, .ty _, ty_sqT hp, kit_ty (by decide +kernel), ?_⟩
      refine ⟨false, rfl, ?_⟩
      refine iteF ⟨V.ref p, rfl, V.ref a, rfl, a, C, rfl, U.oex, hno, .inl ⟨ha, fun dx h1 h2 => q dx h1 h2⟩⟩
end
end K74
/-! Defs that may raise: promises, calls, raise. -/
namespace Ly
open PySem PySem.Spec PyProof.Rows L2
/-- an own error with its one field -/
structure Er where
  C : Addr
  f : Str
  R : Pr
/-- what a def promises that may raise: er tells when -/
def spX {α : Type} (ar : α → List Pr) (pre : α → Prop) (res : α → Pr) (er : α → Option Er) : Sp := fun vs H Q E => ∃ (P : Hp) (a : α), Ld P H ∧ pre a ∧ PL P (ar a) vs ∧ (er a = none → ∀ v P2 H2, Gr P H P2 H2 → (res a).p P2 v → Q v H2) ∧
  ∀ e, er a = some e → ∀ d y P2 H2, Gr P H P2 H2 → P2 d = none → H2 d = some (.xd [(e.f, y)]) → e.R.p P2 y → E (.ref e.C) (some d) H2
structure CalR (P : Program) (w : World) (K : PySem.W.Frag) (mg : Str → Option Value) (base : Heap) (A : Around) (x : Str) (sp : Sp) : Prop where
  ex : ∃ (k : Nat) (f : Addr) (fd : FuncData) (ps : List Str), FnOk P w K mg base (L2.CX P w) k f fd ps sp ∧ Room k A ∧ mg x = some (.ref f) ∧ PySem.W.keepIn K (.ref f) = true ∧ Binds K fd ps []
abbrev CalRX (X : Cx) (x : Str) (sp : Sp) : Prop := CalR X.prog X.w X.K X.mg X.base X.A x sp
/-- where it does not raise -/
theorem CalR.cal {α : Type} {ar : α → List Pr} {pre pre' : α → Prop} {res : α → Pr} {er : α → Option Er} {P : Program} {w : World} {K : PySem.W.Frag} {mg : Str → Option Value} {base : Heap} {A : Around} {x : Str}
    (c : CalR P w K mg base A x (spX ar pre res er)) (h : ∀ a, pre' a → pre a ∧ er a = none) : Cal P w K mg base A x (spF ar pre' res) := by
  obtain ⟨k, f, fd, ps, G, hr, hm, hk, hb⟩ := c.ex
  refine ⟨L2.CX P w, k, f, fd, ps, G.imp fun vs H Q E ⟨P1, a, l, hp, r, q⟩ => ⟨P1, a, l, (h a hp).1, r, fun _ => q, fun e he => ?_⟩, hr, hm, hk, hb, fun X e1 e2 => ?_⟩
  · rw [(h a hp).2] at he
    cases he
  · subst e1 e2
    exact passL
section
variable {X : Cx} {W : WX} {x : Str} {k : Nat} {f : Addr} {fd : FuncData} {ps : List Str} {sp : Sp} {t : TA} {p pos : Pos} {e : Expr} {es : List Expr}
theorem pe_callW (F : FnOk X.prog X.w X.K X.mg X.base (L2.CX X.prog X.w) k f fd ps sp) (tk : Takes X W) (hr : Room k X.A) (hg : Gl X x) (hm : X.mg x = some (.ref f)) (hk : PySem.W.keepIn X.K (.ref f) = true) (hb : Binds X.K fd ps [])
    (ha : PA X (e :: es) t) (hdb : (x == ("__debug__" : Str)) = false := by decide) (he : starEach (e :: es) X.env = (false, eval e X.env) :: starEach es X.env := by rfl) (hpl : (backTo pos (starEach es X.env)).any (·.1) = false := by rfl) :
    PE X (.Call (.Name x p) (e :: es) [] pos) (fun σ H Q => t σ H fun vs H1 => sp vs H1 Q (fun cls d H' => W cls d σ H')) := by
  refine ⟨fun pins s σ H Q I h => ?_⟩
  refine wpAny_Call_Name_kw (ld_glob I hg hm ?_ hdb)
  refine PySem.W.callWith_K (h₀ := X.base) I.ok.mod.kin hk (thn (ha.run pos pins s σ H _ I h) fun us s1 ⟨vs, H1, I1, r, q⟩ => ⟨I1.kIn, ?_⟩) he hpl
  have hl : us.length = ps.length := by rw [← r.length]; exact F.len _ _ _ _ q
  have hb' := hb s1 us I1.kIn (by rw [List.append_nil]; exact hl)
  rw [List.append_nil] at hb'
  refine wpAny_call (codeAny_mono (F.run X.A X.stack s1 H1 ⟨us, []⟩ us vs Q _ hr I1.env0 hb' r q) fun r s' hq => ?_)
  cases r with
  | error e => exact tk e s' (XE.of_call I1 (fun cls d H' h => h) hq)
  | ok fl =>
    cases fl with
    | ret u => exact I1.after hq
    | next => exact False.elim hq
    | brk => exact False.elim hq
    | cont => exact False.elim hq
end
theorem passL0 {X : Cx} {W : WX} (tk : Takes X W) : Passes (L2.CX X.prog X.w) X (fun _ _ _ => False) := passL
section
variable {X : Cx} {W : WX} {K : PySem.W.Frag} {xs : List Addr} {P0 H0 : Hp} {ow : List Addr} {σ : L2.St} {P H : Hp} {ss ss1 : List Sl} {Rs : List Pr} {R : Pr} {x : Str} {p p2 pos pos2 : Pos} {e : Expr} {es : List Expr} {rest : List Stmt} {D : Ends}
  {α : Type} {ar : α → List Pr} {pre : α → Prop} {res : α → Pr} {er : α → Option Er}
/-- f(..), a statement that may raise -/
theorem w_callX (S : S8 xs P0 H0 ow σ P H ss) (tk : Takes X W) (c : CalRX X x (spX ar pre res er)) (a : α) (ha : JA (C1 X) (e :: es) ss Rs ss1) (hp : pre a) (k : er a = none → ∀ P H, S8 xs P0 H0 ow σ P H ss1 → XS X rest D σ H)
    (kx : ∀ e, er a = some e → ∀ d y P H, S8 xs P0 H0 ow σ P H ss1 → P d = none → H d = some (.xd [(e.f, y)]) → e.R.p P y → W (.ref e.C) (some d) σ H) (hA : ar a = Rs := by rfl) (hg : Gl X x := by rfl) (hdb : (x == ("__debug__" : Str)) = false := by decide)
    (he : starEach (e :: es) X.env = (false, eval e X.env) :: starEach es X.env := by rfl) (hpl : (backTo pos (starEach es X.env)).any (·.1) = false := by rfl) (hs : swapsWith (.Call (.Name x p) (e :: es) [] pos) none pos2.line X.env = pure false := by rfl) :
    XS X (.Expr (.Call (.Name x p) (e :: es) [] pos) pos2 :: rest) D σ H := by
  obtain ⟨kk, f, fd, ps, G, hr, hm, hk, hb⟩ := c.ex
  refine w_cons ⟨_, ps_expr (pe_callW G tk hr hg hm hk hb (xa (F := C1 X) ()) hdb he hpl) hs, ?_⟩
  refine ha _ _ _ _ _ _ _ S _ fun vs P2 H2 S2 e2 r2 => ⟨P2, a, S2.ld, hp, hA ▸ r2, fun hn v P3 H3 g r => k hn _ _ (S2.grow g), fun er1 h1 d y P3 H3 g h2 h3 h4 => kx er1 h1 d y _ _ (S2.grow g) h2 h3 h4⟩
/-- x = f(..), f may raise -/
theorem w_asgX (i : Nat) {y : Str} {p3 : Pos} (S : S8 xs P0 H0 ow σ P H ss) (tk : Takes X W) (c : CalRX X x (spX ar pre res er)) (a : α) (ha : JA (C1 X) (e :: es) ss Rs ss1) (hp : pre a) (k : er a = none → ∀ ow σ P H, S8 xs P0 H0 ow σ P H (ss1.set i (.pr (res a))) → XS X rest D σ H)
    (kx : ∀ e, er a = some e → ∀ d y P H, S8 xs P0 H0 ow σ P H ss1 → P d = none → H d = some (.xd [(e.f, y)]) → e.R.p P y → W (.ref e.C) (some d) σ H) (hN : X.N.Nodup) (hl : ∃ s, ss1[i]? = some s := by exact ⟨_, rfl⟩) (hA : ar a = Rs := by rfl) (hg : Gl X x := by rfl) (hdb : (x == ("__debug__" : Str)) = false := by decide)
    (he : starEach (e :: es) X.env = (false, eval e X.env) :: starEach es X.env := by rfl) (hpl : (backTo pos (starEach es X.env)).any (·.1) = false := by rfl)
    (hi : X.N[i]? = some y := by rfl) (hx : Loc X.env.scope y := by first | exact .inl rfl | exact .inr rfl) (hs : swapsWith (.Call (.Name x p) (e :: es) [] pos) (some (.Name y p3)) pos2.line X.env = pure false := by rfl) (hf : X.fn y = true ∨ X.env.scope.names.lookup y = some .local := by first | exact .inr rfl | exact .inl rfl) :
    XS X (.Assign [.Name y p3] (.Call (.Name x p) (e :: es) [] pos) pos2 :: rest) D σ H := by
  obtain ⟨kk, f, fd, ps, G, hr, hm, hk, hb⟩ := c.ex
  refine w_cons ⟨_, ps_set hN hi hx (pe_callW G tk hr hg hm hk hb (xa (F := C1 X) ()) hdb he hpl) hs hf, ?_⟩
  refine ha _ _ _ _ _ _ _ S _ fun vs P2 H2 S2 e2 r2 => ⟨P2, a, S2.ld, hp, hA ▸ r2, fun hn v P3 H3 g r => ?_, fun er1 h1 d y P3 H3 g h2 h3 h4 => kx er1 h1 d y _ _ (S2.grow g) h2 h3 h4⟩
  obtain ⟨ow', S3, _⟩ := (S2.grow g).set' (let ⟨_, e⟩ := hl; (List.getElem?_eq_some_iff.mp e).1) r
  exact k hn ow' _ P3 H3 S3
/-- raise C(e), C an own error with one field -/
theorem w_raise {C fI : Addr} {k : Nat} {fd : FuncData} {ps : List Str} {f : Str} {okv : Hp → V → Prop} (S : S8 xs P0 H0 ow σ P H ss) (tk : Takes X W) (T : OexC X.K C) (iC : PySem.W.findIn X.K (.ref C) "__init__" = some (some (.ref fI))) (tI : PySem.W.typeIn X.K (.ref fI) = some (.type "function"))
    (F1 : FnOk X.prog X.w X.K X.mg X.base (L2.CX X.prog X.w) k fI fd ps (spIn C f okv)) (hr : Room (k + 1) X.A) (hb : Binds X.K fd ps []) (hm : X.mg x = some (.ref C)) (ha : JA (C1 X) [e] ss [R] ss1) (hok : ∀ (P H : Hp) (v : V), Ld P H → R.p P v → okv H v)
    (kx : ∀ d y P H, S8 xs P0 H0 ow σ P H ss1 → P d = none → H d = some (.xd [(f, y)]) → R.p P y → W (.ref C) (some d) σ H) (hc : X.calm = true := by rfl) (hg : Gl X x := by rfl) (hdb : (x == ("__debug__" : Str)) = false := by decide)
    (he : starEach [e] X.env = (false, eval e X.env) :: starEach [] X.env := by rfl) (hpl : (backTo pos (starEach [] X.env)).any (·.1) = false := by rfl) :
    XS X (.Raise (some (.Call (.Name x p) [e] [] pos)) none pos2 :: rest) D σ H := by
  refine w_cons ⟨_, ps_raise hc tk (pmk_oex T iC tI F1 hr hb .nil (passL0 tk) hg hm (xa (F := C1 X) ()) hdb he hpl), ?_⟩
  refine ha _ _ _ _ _ _ _ S _ fun vs P2 H2 S2 e2 r2 => ?_
  obtain ⟨v, rfl, r⟩ := pl1 r2
  refine ⟨by show (1 : Nat) ≤ 1000; omega, fun a ha => ⟨a, v, rfl, upd_same, hok _ _ v (Gr.junk S2.ld ha (exo a C none)).l r, fun dx h1 h2 => ⟨rfl, dx, [(f, v)], upd_same, (upd_ne h2).trans upd_same, (upd_ne h2).symm.trans h1, ?_⟩⟩⟩
  have hd : H2 dx = none := (upd_ne h2).symm.trans h1
  have e : upd (del (upd (upd (upd H2 a (exo a C none)) dx (exd dx [(f, v)])) a (exo a C (some dx))) a) dx (.xd [(f, v)]) = upd H2 dx (.xd [(f, v)]) := by
    funext b
    by_cases hb : b = dx
    · subst hb
      rw [upd_same, upd_same]
    · rw [upd_ne hb, upd_ne hb]
      by_cases hb2 : b = a
      · subst hb2
        rw [del_same, ha]
      · rw [del_ne hb2, upd_ne hb2, upd_ne hb, upd_ne hb2]
  rw [e]
  exact kx dx v P2 _ (S2.grow (Gr.junk S2.ld hd _)) (S2.ld.none hd) upd_same r
end
/-- an own error class that the text may raise -/
structure RaiseK (P : Program) (w : World) (K : PySem.W.Frag) (mg : Str → Option Value) (base : Heap) (x : Str) (C : Addr) (f : Str) (okv : Hp → V → Prop) : Prop where
  T : OexC K C
  hm : mg x = some (.ref C)
  ex : ∃ (fI : Addr) (fd : FuncData) (ps : List Str), PySem.W.findIn K (.ref C) "__init__" = some (some (.ref fI)) ∧ PySem.W.typeIn K (.ref fI) = some (.type "function") ∧ FnOk P w K mg base (L2.CX P w) 1 fI fd ps (spIn C f okv) ∧ Binds K fd ps []
section
variable {X : Cx} {W : WX} {xs : List Addr} {P0 H0 : Hp} {ow : List Addr} {σ : L2.St} {P H : Hp} {ss ss1 : List Sl} {R : Pr} {x : Str} {p pos pos2 : Pos} {e : Expr} {rest : List Stmt} {D : Ends}
theorem w_raiseK {C : Addr} {f : Str} {okv : Hp → V → Prop} (S : S8 xs P0 H0 ow σ P H ss) (tk : Takes X W) (c : RaiseK X.prog X.w X.K X.mg X.base x C f okv) (hr : Room 2 X.A) (ha : JE (C1 X) e ss R ss1) (hok : ∀ (P H : Hp) (v : V), Ld P H → R.p P v → okv H v)
    (kx : ∀ d y P H, S8 xs P0 H0 ow σ P H ss1 → P d = none → H d = some (.xd [(f, y)]) → R.p P y → W (.ref C) (some d) σ H) (hc : X.calm = true := by rfl) (hg : Gl X x := by rfl) (hdb : (x == ("__debug__" : Str)) = false := by decide)
    (he : starEach [e] X.env = (false, eval e X.env) :: starEach [] X.env := by rfl) (hpl : (backTo pos (starEach [] X.env)).any (·.1) = false := by rfl) :
    XS X (.Raise (some (.Call (.Name x p) [e] [] pos)) none pos2 :: rest) D σ H := by
  obtain ⟨fI, fd, ps, h1, h2, h3, h4⟩ := c.ex
  exact w_raise S tk c.T h1 h2 h3 hr h4 c.hm (ja_cons ha ja_nil (fun _ => he)) hok kx hc hg hdb he hpl
end
section
variable {P : Program} {w : World} {K : PySem.W.Frag} {mg : Str → Option Value} {base : Heap} {x qual : Str} {st : Stmt} {f : Addr} {fd : FuncData} {N ps : List Str}
/-- a def that may raise keeps its promise -/
theorem fnX {α : Type} {ar : α → List Pr} {pre : α → Prop} {res : α → Pr} {er : α → Option Er} (k : Nat) (F : Fun K x qual st f fd) (S : FnScope N ps (defScope st)) (hl : ∀ a, (ar a).length = ps.length)
    (hb : ∀ (X : Cx) (cdv : Value) (A : Around) (outer : List Env) (s : Shared) (H0 : Hp) (Q : VK) (E : XK), X = cxOf (L2.CX P w) P w K mg base N qual (defScope st) f cdv A outer s H0 E → Room k X.A → Takes X (fun cls d _ H => E cls d H) → ∀ (P0 : Hp) (a : α) (σ : L2.St), pre a → S8 [] P0 H0 [] σ P0 H0 (ini (ar a) (N.length - ps.length)) →
      (er a = none → ∀ v P2 H2, Gr P0 H0 P2 H2 → (res a).p P2 v → Q v H2) → (∀ e, er a = some e → ∀ d y P2 H2, Gr P0 H0 P2 H2 → P2 d = none → H2 d = some (.xd [(e.f, y)]) → e.R.p P2 y → E (.ref e.C) (some d) H2) →
      XS (cxOf (L2.CX P w) P w K mg base N qual (defScope st) f cdv A outer s H0 E) (defBody st) { nx := fun _ H' => Q .non H', rt := Q } σ H0) :
    FnOk P w K mg base (L2.CX P w) (k + 1) f fd ps (spX ar pre res er) := by
  refine F.okX S (fun vs H Q E h => ?_) (fun cdv A outer s H vs Q E hr h => ?_)
  · obtain ⟨P0, a, _, _, r, _⟩ := h
    rw [r.len, hl]
  · obtain ⟨P0, a, ld, hp, r, q, qx⟩ := h
    have e : vs.length = ps.length := by rw [r.len, hl]
    have S0 : S8 [] P0 H [] (L2.start N vs) P0 H (ini (ar a) (N.length - ps.length)) := by
      refine ⟨Same.refl _, ld, fun _ _ _ e => e, fun _ _ e => e, fun a ha => absurd ha (by simp), fun a ha => absurd ha (by simp), ?_⟩
      unfold L2.start
      rw [e]
      exact ini_all _ r
    exact ⟨_, Ly.xs, hb _ cdv A outer s H Q E rfl hr (takes_of rfl rfl rfl rfl) P0 a _ hp S0 q qx⟩
end
end Ly
/-! check_line_rounds -/
namespace K74
open PySem PySem.Spec PyProof.Rows L2 Ly M74
/-- the classes' places -/
structure Cs where
  count : Addr
  place : Addr
  apart : Addr
  wide : Addr
  line : Addr
  say : Addr
  Line : Addr
def erI (C : Addr) (f : Str) (i : Int) : Er := ⟨C, f, pI i⟩
section
variable {w : World} {K : PySem.W.Frag} {mg : Str → Option Value} {base : Heap} {cs : Cs}
abbrev sCR : Stmt := top 24
theorem scCR : FnScope ["rounds", "least"] ["rounds", "least"] (defScope sCR) := ⟨rfl, rfl, rfl, by decide +kernel, rfl, by decide +kernel, by decide +kernel⟩
def erCR (cs : Cs) (a : Int × Int) : Option Er := if a.1 < a.2 ∨ 5 < a.1 then some (erI cs.count "count" a.1) else none
abbrev spCR (cs : Cs) : Sp := spX (fun a : Int × Int => [pI a.1, pI a.2]) (fun a => a.1.natAbs ≤ 16000000) (fun _ => pV .non) (erCR cs)
theorem log_small {i : Int} (h : i.natAbs ≤ 16000000) : i.natAbs.log2 < 1920 := by
  have h2 : i.natAbs < 2 ^ 1920 := Nat.lt_of_le_of_lt h (by decide +kernel)
  by_cases z : i.natAbs = 0
  · rw [z]; decide
  · exact (Nat.log2_lt z).mpr h2
theorem ok_CR {f : Addr} {fd : FuncData} (F : FnP K "check_line_rounds" sCR f fd) (rc : RaiseK PP w K mg base "BadCount" cs.count "count" okI) (ct : Cst K mg) : FnOk PP w K mg base (L2.CX PP w) 3 f fd ["rounds", "least"] (spCR cs) := by
  refine fnX 2 F scCR (fun _ => rfl) fun X cdv A outer s H0 Q E hX hr tk P0 a σ pre S kQ kE => ?_
  obtain ⟨r, l⟩ := a
  dsimp only at pre S
  subst hX
  have hok : ∀ (P H : Hp) (v : V), Ld P H → (pI r).p P v → okI H v := fun P H v _ e => ⟨r, e, log_small pre⟩
  refine w_if S (q := decide (r < l)) (jt_cmp (fun _ => op_lt) rv_I0 (je_v 0 fun _ => pv 0) (je_v 1 fun _ => pv 1) (nomark _)) (fun h P H S => ?_) (fun h P H S => w_nil ?_)
  · have h : r < l := by simpa using h
    exact w_raiseK S tk rc hr (je_v 0 fun _ => pv 0) hok fun d y P H S h1 h2 h3 => kE (erI cs.count "count" r) (if_pos (.inl h)) d y P H S.gr h1 h2 h3
  have h : ¬ r < l := by simpa using h
  refine w_if S (q := decide (5 < r)) (jt_cmp (fun _ => op_gt) rv_I0 (je_v 0 fun _ => pv 0) (je_num fun _ => ct.MR) (nomark _)) (fun h2 P H S => ?_) (fun h2 P H S => w_nil ?_)
  · have h2 : 5 < r := by simpa using h2
    exact w_raiseK S tk rc hr (je_v 0 fun _ => pv 0) hok fun d y P H S h1 h3 h4 => kE (erI cs.count "count" r) (if_pos (.inr h2)) d y P H S.gr h1 h3 h4
  have h2 : ¬ 5 < r := by simpa using h2
  refine w_nil (kQ (if_neg fun z => z.elim h h2) _ _ _ S.gr rfl)
end
end K74
/-! Instances of own classes: made once, read afterwards. -/
namespace Ly
open PySem PySem.Spec PyProof.Rows L2
/-- fields by name -/
structure FldR (P : Hp) (fs : List (Str × Pr)) (ys : List (Str × V)) : Prop where
  at_ : ∀ f R, fs.lookup f = some R → ∃ y, ys.lookup f = some y ∧ R.p P y
  no : ∀ f, fs.lookup f = none → ys.lookup f = none
  le : ys.length ≤ fs.length
theorem FldR.up {P P' : Hp} {fs : List (Str × Pr)} {ys : List (Str × V)} (h : FldR P fs ys) (e : Same P P') : FldR P' fs ys :=
  ⟨fun f R l => let ⟨y, a, b⟩ := h.at_ f R l; ⟨y, a, R.up e b⟩, h.no, h.le⟩
theorem lookup_putP {α : Type} (f g : Str) (y : α) (fs : List (Str × α)) : ((f, y) :: fs).lookup g = if g = f then some y else fs.lookup g := by
  by_cases h : g = f
  · subst h
    simp [List.lookup]
  · have e : (g == f) = false := by simpa using h
    rw [if_neg h]
    simp [List.lookup, e]
theorem FldR.put {P : Hp} {fs : List (Str × Pr)} {ys : List (Str × V)} {f : Str} {R : Pr} {y : V} (h : FldR P fs ys) (r : R.p P y) : FldR P ((f, R) :: fs) (putF f y ys) := by
  refine ⟨fun g R' l => ?_, fun g l => ?_, ?_⟩
  · rw [lookup_putP] at l
    rw [lookup_putF]
    by_cases q : g = f
    · rw [if_pos q] at l ⊢
      cases l
      exact ⟨y, rfl, r⟩
    · rw [if_neg q] at l ⊢
      exact h.at_ g R' l
  · rw [lookup_putP] at l
    rw [lookup_putF]
    by_cases q : g = f
    · rw [if_pos q] at l
      cases l
    · rw [if_neg q] at l ⊢
      exact h.no g l
  · have := length_putF f y ys
    have := h.le
    show _ ≤ fs.length + 1
    omega
/-- an instance that stands -/
def pO (C : Addr) (fs : List (Str × Pr)) : Pr := ⟨fun P v => ∃ a dx ys, v = .ref a ∧ P a = some (.ins C dx ys) ∧ FldR P fs ys, fun e ⟨a, dx, ys, h1, h2, h3⟩ => ⟨a, dx, ys, h1, e _ _ h2, h3.up e⟩⟩
/-- the one that is being made -/
def oO (C a : Addr) (fs : List (Str × Pr)) : Ow := ⟨fun P H v fp => ∃ dx ys, v = .ref a ∧ fp = [a] ∧ H a = some (.ins C dx ys) ∧ FldR P fs ys,
  fun {P P' H H' v fp} e k ⟨dx, ys, h1, h2, h3, h4⟩ => ⟨dx, ys, h1, h2, by subst h2; rw [k a (by simp)]; exact h3, h4.up e⟩⟩
section
variable {ι : Type} {F : ι → Cx} {K : PySem.W.Frag} {ss ss1 ss2 : List Sl} {R : Pr} {x f : Str} {p pos pos' : Pos} {e o : Expr} {es : List Expr} {C : Addr} {fs : List (Str × Pr)}
/-- e.f -/
theorem je_fld (ha : JE F e ss (pO C fs) ss1) (c : Cls K C) (n : NoAttr K C f) (hl : fs.lookup f = some R) (hb : ∀ i, attributeBase e f (F i).env (eval e (F i).env) = eval e (F i).env := by intro _; rfl) (hK : ∀ i, (F i).K = K := by intro _; rfl) :
    JE F (.Attribute e f pos) ss R ss1 := fun xs P0 H0 ow σ P H S Q k =>
  ⟨tFld K (XE F e) f, fun i => hK i ▸ pe_fld (xe i) (hb i), ha _ _ _ _ _ _ _ S _ fun v P2 H2 S2 e2 r2 => by
    obtain ⟨a, dx, ys, rfl, h2, h3⟩ := r2
    obtain ⟨y, l, r⟩ := h3.at_ f R hl
    exact ⟨a, C, dx, ys, y, rfl, S2.ld.at h2 (fun z => z), c, n, l, k y P2 H2 S2 e2 r⟩⟩
end
section
variable {X : Cx} {xs : List Addr} {P0 H0 : Hp} {ow : List Addr} {σ : L2.St} {P H : Hp} {ss ss1 : List Sl} {R : Pr} {p pos pos' : Pos} {e o : Expr} {rest : List Stmt} {D : Ends} {f : Str} {C : Addr} {fs : List (Str × Pr)}
/-- self.f = e, self being made in slot i -/
theorem w_fld {a : Addr} (i : Nat) (S : S8 xs P0 H0 ow σ P H ss) (ho : ∀ j, PE (C1 X j) o (tVar i)) (h : JE (C1 X) e ss R ss1) (c : Cls X.K C) (n : NoAttr X.K C f) (hs1 : ss1[i]? = some (.ow (oO C a fs)) := by rfl) (hz : fs.length < 1000 := by decide)
    (k : ∀ ow P H, S8 xs P0 H0 ow σ P H (ss1.set i (.ow (oO C a ((f, R) :: fs)))) → XS X rest D σ H) (hs : swapsWith e (some (.Attribute o f pos')) pos.line X.env = pure false := by rfl) :
    XS X (.Assign [.Attribute o f pos'] e pos :: rest) D σ H := by
  refine w_cons ⟨_, ps_fld (ho ()) (xe (F := C1 X) ()) hs, ?_⟩
  refine h _ _ _ _ _ _ _ S _ fun w P2 H2 S2 _ r => ?_
  obtain ⟨v, fp, ev, ⟨dx, ys, rfl, rfl, h3, h4⟩, _, put⟩ := S2.owned hs1
  refine ⟨_, ev, a, C, dx, ys, rfl, h3, c, n, Nat.lt_of_le_of_lt h4.le hz, ?_⟩
  obtain ⟨ow', _, S3⟩ := put (upd H2 a (.ins C dx (putF f w ys))) (oO C a ((f, R) :: fs)) (fun b hb => upd_ne (fun z => hb (by simp [z]))) (fun b hb => by
    have hb : b = a := by simpa using hb
    rw [hb, upd_same]
    exact fun z => by cases z) ⟨dx, _, rfl, rfl, upd_same, h4.put r⟩
  exact k ow' P2 _ S3
end
/-- what an `__init__` promises -/
def spO {α : Type} (C : Addr) (ar : α → List Pr) (pre : α → Prop) (fs : α → List (Str × Pr)) : Sp := fun vs H Q _ => ∃ (P : Hp) (a : α) (x dx : Addr) (ws : List V), vs = .ref x :: ws ∧ Ld P H ∧ pre a ∧ P x = none ∧ H x = some (.ins C dx []) ∧ PL P (ar a) ws ∧
  ∀ P2 H2 dy ys, Same P P2 → Ld P2 H2 → (∀ b o, b ≠ x → H b = some o → H2 b = some o) → (∀ b, H b ≠ none → P b = none → P2 b = none) → H2 x = some (.ins C dy ys) → FldR P2 (fs a) ys → Q .non H2
section
variable {P : Program} {w : World} {K : PySem.W.Frag} {mg : Str → Option Value} {base : Heap} {x qual : Str} {st : Stmt} {f : Addr} {fd : FuncData} {N ps : List Str} {C : Addr}
theorem fnO {α : Type} {ar : α → List Pr} {pre : α → Prop} {fs : α → List (Str × Pr)} (k : Nat) (F : Fun K x qual st f fd) (S : FnScope N ps (defScope st)) (hl : ∀ a, (ar a).length + 1 = ps.length)
    (hb : ∀ (cdv : Value) (A : Around) (outer : List Env) (s : Shared) (H0 : Hp) (Q : VK) (E : XK), Room k (A.deeper (envOfC qual (defScope st) s.heap.objs.size f cdv)) → ∀ (P0 : Hp) (a : α) (x : Addr) (σ : L2.St), pre a → S8 [x] P0 H0 [x] σ P0 H0 (.ow (oO C x []) :: ini (ar a) (N.length - ps.length)) →
      (∀ ow σ P2 H2 ss, S8 [x] P0 H0 ow σ P2 H2 (.ow (oO C x (fs a)) :: ss) → Q .non H2) → XS (cxOf CX0 P w K mg base N qual (defScope st) f cdv A outer s H0 E).nox (defBody st) { nx := fun _ H' => Q .non H', rt := Q } σ H0) :
    FnOk P w K mg base CX0 (k + 1) f fd ps (spO C ar pre fs) := by
  refine F.ok S (fun vs H Q E h => ?_) (fun cdv A outer s H vs Q E hr h => ?_)
  · obtain ⟨P0, a, x, dx, ws, rfl, _, _, _, _, r, _⟩ := h
    rw [List.length_cons, r.len, hl]
  · obtain ⟨P0, a, x, dx, ws, rfl, ld, hp, hx, hi, r, q⟩ := h
    have e : (V.ref x :: ws).length = ps.length := by rw [List.length_cons, r.len, hl]
    have S0 : S8 [x] P0 H [x] (L2.start N (.ref x :: ws)) P0 H (.ow (oO C x []) :: ini (ar a) (N.length - ps.length)) := by
      refine ⟨Same.refl _, ld, fun _ _ _ e => e, fun _ _ e => e, fun a ha => ?_, fun a ha => ?_, ?_⟩
      · obtain rfl : a = x := by simpa using ha
        exact ⟨hx, by rw [hi]; exact Option.some_ne_none _, .inr (by simp)⟩
      · obtain rfl : a = x := by simpa using ha
        rw [hi]
        exact Option.some_ne_none _
      · unfold L2.start
        rw [e]
        exact .cons (fp := [x]) (ow := []) (.ow ⟨dx, [], rfl, rfl, hi, fun _ _ z => (nomatch z), fun _ _ => rfl, Nat.le_refl _⟩) (fun a _ z => absurd z (by simp)) (ini_all _ r)
    refine ⟨_, Ly.xs, hb cdv A outer s H Q E hr P0 a x _ hp S0 (fun ow σ P2 H2 ss S2 => ?_)⟩
    obtain ⟨v, fp, ev, ⟨dy, ys, rfl, rfl, h3, h4⟩, _, _⟩ := S2.owned (i := 0) rfl
    exact q P2 H2 dy ys S2.p0 S2.ld (fun b o hb hh => S2.h0 b o (by simpa using hb) hh) S2.nw h3 h4
end
/-- a class that may be made by its name -/
structure MakC (P : Program) (w : World) (K : PySem.W.Frag) (mg : Str → Option Value) (base : Heap) (A : Around) (x : Str) (C : Addr) (sp : Sp) : Prop where
  ex : ∃ (CX : CXT) (k : Nat) (f : Addr) (fd : FuncData) (ps : List Str), Mk K C f ∧ FnOk P w K mg base CX k f fd ps sp ∧ Room (k + 1) A ∧ mg x = some (.ref C) ∧ Binds K fd ps [] ∧ ∀ X : Cx, X.prog = P → X.w = w → Passes CX X E0
section
variable {ι : Type} {F : ι → Cx} {K : PySem.W.Frag} {ss ss1 ss2 : List Sl} {Rs : List Pr} {x : Str} {p pos : Pos} {e : Expr} {es : List Expr} {C : Addr}
theorem je_make {α : Type} {ar : α → List Pr} {pre : α → Prop} {fs : α → List (Str × Pr)} (c : ∀ i, MakC (F i).prog (F i).w (F i).K (F i).mg (F i).base (F i).A x C (spO C ar pre fs)) (a : α) (ha : JA F (e :: es) ss Rs ss1) (hp : pre a) (hA : ar a = Rs := by rfl)
    (hg : ∀ i, Gl (F i) x := by intro _; rfl) (hdb : (x == ("__debug__" : Str)) = false := by decide) (he : ∀ i, starEach (e :: es) (F i).env = (false, eval e (F i).env) :: starEach es (F i).env := by intro _; rfl)
    (hpl : ∀ i, (backTo pos (starEach es (F i).env)).any (·.1) = false := by intro _; rfl) : JE F (.Call (.Name x p) (e :: es) [] pos) ss (pO C (fs a)) ss1 := fun xs P0 H0 ow σ P H S Q k =>
  ⟨tMake C (spO C ar pre fs) [] E0 (XA F (e :: es)), fun i => by
    obtain ⟨CX, kk, f, fd, ps, M, G, hr, hm, hb, hx⟩ := (c i).ex
    exact pe_make M G hr (hg i) hm hb .nil (hx _ rfl rfl) (xa i) hdb (he i) (hpl i), ha _ _ _ _ _ _ _ S _ fun vs P2 H2 S2 e2 r2 x dx nx nd ne => by
    have l1 := S2.ld
    have g1 := Gr.junk l1 nd (.own x)
    have nx1 : upd H2 dx (.own x) x = none := by rw [upd_ne (Ne.symm ne)]; exact nx
    have g2 := g1.trans (Gr.junk g1.l nx1 (.ins C dx []))
    rw [List.append_nil]
    refine ⟨P2, a, x, dx, vs, rfl, g2.l, hp, l1.none nx, upd_same, hA ▸ r2, fun P3 H3 dy ys sm ld hh hn h3 h4 => ⟨rfl, ?_⟩⟩
    have np : P3 x = none := hn x (by rw [upd_same]; exact Option.some_ne_none _) (l1.none nx)
    have g3 : Gr P2 H2 P3 H3 := ⟨sm, ld, fun b o hb => hh b o (fun z => by rw [z, nx] at hb; cases hb) (g2.h b o hb), fun b hb pb => hn b (some_of g2.h hb) pb⟩
    have g4 := g3.freeze nx np h3
    exact k _ _ _ (S2.grow g4) (e2.trans g4.p) ⟨x, dy, ys, rfl, upd_same, h4.up (same_upd np)⟩⟩
end
end Ly
/-! enumerate of a list, str, join. -/
namespace Ly
open PySem PySem.Spec PyProof.Rows L2
section
variable {ι : Type} {F : ι → Cx} {K : PySem.W.Frag} {w : World} {ss ss1 ss2 : List Sl} {e e2 : Expr} {pos p tpos : Pos} {elts : List Expr} {kk : Nat} {α β : Type}
theorem ji_enumL {xs : List α} {r : α → Pr} (h : JE F e ss (pL (xs.map r)) ss1) (hm : ∀ i, (F i).mg "enumerate" = none) (hg : ∀ i, Gl (F i) "enumerate" := by intro _; rfl) (hs : ∀ i, starEach [e] (F i).env = [(false, eval e (F i).env)] := by intro _; rfl) (hK : ∀ i, (F i).K = K := by intro _; rfl) :
    JI F (.Tuple elts kk tpos) (.Call (.Name "enumerate" p) [e] [] pos) ss ((idx xs).map fun y => pT K [pI y.1, r y.2]) ss1 := fun xs' P0 H0 ow σ P H S Rr k =>
  ⟨iEnum K (tCons (XE F e) tNil), fun i => by have q := pi_enum (elts := elts) (kk := kk) (tpos := tpos) (p := p) (pos := pos) (hg i) (hm i) (pa_cons (xe (F := F) (e := e) i) pa_nil (hs i)) (hs i); rw [hK i] at q; exact q, h _ _ _ _ _ _ _ S _ fun v P2 H2 S2 e2 rv => by
    obtain ⟨a, ys, rfl, h3, h4⟩ := rv
    have hlen : ys.length = xs.length := by rw [h4.len, List.length_map]
    have sq : ∀ {P' H' : Hp}, Ld P' H' → Same P2 P' → SqL K H' a ys := fun l s => .inl (l.rd (s _ _ h3))
    refine ⟨a, ys, rfl, sq S2.ld (Same.refl _), k _ P2 H2 S2 e2 ⟨fun i P' H' hi l s => ?_, fun i R P' H' x H'' hR l s y => ?_, fun P' H' l s => ⟨ys, sq l s, by rw [List.length_map, idx_len, hlen]; exact Nat.le_refl _⟩⟩⟩
    · have : i < ys.length := by rw [List.length_map, idx_len] at hi; omega
      exact ⟨ys, ys[i], sq l s, List.getElem?_eq_getElem this⟩
    · obtain ⟨T, v, rfl, hT, rfl, hv⟩ := y
      rw [List.getElem?_map] at hR
      cases hq : (idx xs)[i]? with
      | none => rw [hq] at hR; cases hR
      | some q =>
        rw [hq] at hR
        cases hR
        obtain ⟨q1, q2⟩ := idx_get hq
        have hR2 : (xs.map r)[i]? = some (r q.2) := by rw [List.getElem?_map, q2]; rfl
        obtain ⟨v', e1, r1⟩ := h4.at hR2
        have e3 := hv ys (sq l s)
        rw [e1] at e3
        cases e3
        have g := Gr.new l hT (.tup [.int (i : Nat), v])
        refine ⟨_, g, T, _, rfl, upd_same, .cons ?_ (.cons (Pr.up _ (s.trans g.p) r1) .nil), le_line (by simp)⟩
        rw [q1]
        rfl⟩
/-- str of a text or a number -/
def tx : V → Str
  | .str x => x
  | .int i => toString i
  | _ => ""
theorem je_strS {x : Str} (ha : JE F e ss (pS x) ss1) (hm : ∀ i, (F i).mg "str" = none) (hg : ∀ i, Gl (F i) "str" := by intro _; rfl) (he : ∀ i, starEach [e] (F i).env = (false, eval e (F i).env) :: starEach [] (F i).env := by intro _; rfl)
    (hpl : ∀ i, (backTo pos (starEach [] (F i).env)).any (·.1) = false := by intro _; rfl) : JE F (.Call (.Name "str" p) [e] [] pos) ss (pS x) ss1 :=
  je_ct (fun _ => SkE.call_str_str) (fun P H vs Q l r k => by
    obtain ⟨v, rfl, rfl⟩ := pl1 r
    exact ⟨x, rfl, k _ P H (Gr.refl l) rfl⟩) (ja_cons ha ja_nil he) hm (by decide +kernel) hg (by decide) (by decide) he hpl
theorem je_strI {i : Int} (ha : JE F e ss (pI i) ss1) (hz : i.natAbs.log2 < 1920) (hm : ∀ i, (F i).mg "str" = none) (hg : ∀ i, Gl (F i) "str" := by intro _; rfl) (he : ∀ i, starEach [e] (F i).env = (false, eval e (F i).env) :: starEach [] (F i).env := by intro _; rfl)
    (hpl : ∀ i, (backTo pos (starEach [] (F i).env)).any (·.1) = false := by intro _; rfl) : JE F (.Call (.Name "str" p) [e] [] pos) ss (pS (toString i : String)) ss1 :=
  je_ct (fun _ => call_str_int) (fun P H vs Q l r k => by
    obtain ⟨v, rfl, rfl⟩ := pl1 r
    exact ⟨i, rfl, hz, k _ P H (Gr.refl l) rfl⟩) (ja_cons ha ja_nil he) hm (by decide +kernel) hg (by decide) (by decide) he hpl
theorem pl_strs {P : Hp} : ∀ {ys : List Str} {zs : List V}, PL P (ys.map fun y => pS y) zs → zs = ys.map V.str
  | [], _, .nil => rfl
  | y :: ys, _, .cons r t => by
    rw [pl_strs t]
    obtain rfl := r
    rfl
/-- sep.join(xs) -/
theorem je_join {o : Expr} {apos : Pos} {sep : Str} {ys : List Str} (ho : JE F o ss (pS sep) ss1) (ha : JE F e ss1 (pL (ys.map fun y => pS y)) ss2) (hz : (ys.map (·.length)).sum + ys.length * sep.length ≤ 16777216)
    (hs : ∀ i, starEach [e] (F i).env = [(false, eval e (F i).env)] := by intro _; rfl) (hbase : ∀ i, attributeBase o "join" (F i).env (eval o (F i).env) = eval o (F i).env := by intro _; rfl) (hline : (apos.endLine == pos.line) = true := by rfl) (hK : ∀ i, (F i).K = K := by intro _; rfl) :
    JE F (.Call (.Attribute o "join" apos) [e] [] pos) ss (pS (Txt.join sep ys)) ss2 := fun xs P0 H0 ow σ P H S Q k =>
  ⟨tM1 (fun x xs H Q => ∃ a p, ∃ ys : List Str, x = .str a ∧ xs = [.ref p] ∧ (SqL K H p (ys.map V.str) ∨ SqT K H p (ys.map V.str)) ∧ (ys.map (·.length)).sum + ys.length * a.length ≤ 16777216 ∧ Q (.str (Txt.join a ys)) H) (XE F o) (XE F e),
    fun i => hK i ▸ pe_join (xe (F := F) i) (xe (F := F) i) (hs i) (hbase i) hline, ho _ _ _ _ _ _ _ S _ fun v P2 H2 S2 e2 r2 => ⟨⟨sep, r2⟩, ha _ _ _ _ _ _ _ S2 _ fun v3 P3 H3 S3 e3 r3 => by
    obtain ⟨a, zs, rfl, h2, h3⟩ := r3
    obtain rfl : v = .str sep := r2
    obtain rfl := pl_strs h3
    exact ⟨sep, a, ys, rfl, rfl, .inl (.inl (S3.ld.rd h2)), hz, k _ P3 H3 S3 (e2.trans e3) rfl⟩⟩⟩
end
end Ly
/-! _is_block, Line.__init__ -/
namespace K74
open PySem PySem.Spec PyProof.Rows L2 Ly M74
/-- what a line may be made of -/
def okLn (bs : Ln) : Prop := bs.length ≤ 8 ∧ ∀ k, Blk.n k ∈ bs → 1 ≤ k ∧ k ≤ 1000
def ty (b : Blk) : Value := match b with
  | .n _ => .type "int"
  | _ => .type "str"
theorem kb_ty {K : PySem.W.Frag} {H : Hp} (b : Blk) : TyX K H (kb b) (ty b) := by
  cases b with
  | n k => exact .base (.int _)
  | up => exact .base (.str _)
  | dn => exact .base (.str _)
theorem kit_b {K : PySem.W.Frag} (b : Blk) : PySem.W.kitOne K (ty b) (.type "str") = some (isE b) := by
  cases b with
  | n k => exact kit_ty (K := K) (a := "int") (b := "str") (r := false) (by decide +kernel)
  | up => exact kit_ty (K := K) (a := "str") (b := "str") (r := true) (by decide +kernel)
  | dn => exact kit_ty (K := K) (a := "str") (b := "str") (r := true) (by decide +kernel)
section
variable {P : Program} {w : World} {K : PySem.W.Frag} {mg : Str → Option Value} {base : Heap}
abbrev sIB : Stmt := top 16
abbrev spIB : Sp := spF (fun b : Blk => [pK b]) (fun b => ∀ k, b = .n k → 1 ≤ k ∧ k ≤ 1000) (fun _ => pB true)
theorem scIB : FnScope ["block"] ["block"] (defScope sIB) := ⟨rfl, rfl, rfl, by decide +kernel, rfl, by decide +kernel, by decide +kernel⟩
theorem ok_IB {f : Addr} {fd : FuncData} (F : FnP K "_is_block" sIB f fd) (T : Cst K mg) : FnOk P w K mg base CX0 1 f fd ["block"] spIB := by
  refine fnF 0 F scIB (fun _ => rfl) fun cdv A outer s H0 Q E hr P0 b σ pre S kQ => ?_
  obtain ⟨aE, hE, tE⟩ := T.END
  refine w_if S (q := isE b) (jt_val (je_isi (K := K) (t := ty b) (T := "str") (je_v 0 fun _ => pv 0) (fun P H v _ e => by obtain rfl := e; exact kb_ty b) (kit_b b) (fun _ => T.bt.isinstance) (fun _ => T.bt.str) (by decide +kernel))) (fun h P H S => ?_) (fun h P H S => w_nil ?_)
  · refine w_ret S (je_cmp (fun _ => op_in_seq) (rv_isC (K := K) (kb_flat b) END_flat) (je_v 0 fun _ => pv 0) (je_END (fun _ => hE) tE) rfl) fun v P H S r => kQ v P H S.gr ?_
    have e := inE_kb b
    rw [h] at e
    have e : inV (kb b) [V.str "up", V.str "down"] = true := e
    rw [e] at r
    exact r
  · obtain ⟨k, rfl⟩ : ∃ k, b = .n k := by cases b <;> first | exact ⟨_, rfl⟩ | exact absurd h (by decide)
    obtain ⟨h1, h2⟩ := pre k rfl
    refine w_ret S (je_and (q := decide ((1 : Int) ≤ k)) (q' := decide ((k : Int) ≤ 1000)) (je_cmp (fun _ => op_ge) rv_I0 (je_v 0 fun _ => pv 0) je_i (nomark _)) fun _ => je_one (je_cmp (fun _ => op_le) rv_I0 (je_v 0 fun _ => pv 0) (je_num fun _ => T.MN) (nomark _))) fun v P H S r => kQ v P H S.gr ?_
    have e : (decide ((1 : Int) ≤ k) && decide ((k : Int) ≤ 1000)) = true := by
      rw [Bool.and_eq_true, decide_eq_true_eq, decide_eq_true_eq]
      omega
    rw [e] at r
    exact r
/-! ### Line.__init__ -/
def txt (bs : Ln) : Str := Txt.join " " (bs.map fun b => tx (kb b))
abbrev sLI : Stmt := inClass (top 11) 0
abbrev nLI : List Str := ["self", "blocks", "at", "block"]
theorem scLI : FnScope nLI ["self", "blocks"] (defScope sLI) := ⟨rfl, rfl, rfl, by decide +kernel, rfl, by decide +kernel, by decide +kernel⟩
abbrev fLn (K : PySem.W.Frag) (bs : Ln) : List (Str × Pr) := [("text", pS (txt bs)), ("blocks", pBs K bs)]
abbrev spLI (K : PySem.W.Frag) (C : Addr) : Sp := spO C (fun bs : Ln => [pL (bs.map pK)]) okLn (fLn K)
theorem idx_snd {α : Type} {xs : List α} {p : Nat × α} (h : p ∈ idx xs) : p.2 ∈ xs := by
  obtain ⟨i, hi⟩ := List.mem_iff_getElem?.mp h
  exact List.mem_of_getElem? (idx_get hi).2
/-- how long the text of a block may be -/
theorem tx_len {b : Blk} (h : ∀ k, b = .n k → k ≤ 1000) : (tx (kb b)).length ≤ 1921 := by
  cases b with
  | n k => exact int_text_len_1921 (log_small (i := (k : Int)) (by have := h k rfl; omega))
  | up => decide +kernel
  | dn => decide +kernel
theorem ok_LI {C f : Addr} {fd : FuncData} (F : Fun K "__init__" "Line.__init__" sLI f fd) (T : Cst K mg) (c : Cls K C) (n1 : NoAttr K C "blocks") (n2 : NoAttr K C "text") (cI : ∀ A : Around, Room 1 A → Cal P w K mg base A "_is_block" spIB) :
    FnOk P w K mg base CX0 2 f fd ["self", "blocks"] (spLI K C) := by
  refine fnO 1 F scLI (fun _ => rfl) fun cdv A outer s H0 Q E hr P0 bs x σ pre S kQ => ?_
  obtain ⟨h8, hk⟩ := pre
  refine w_if S (q := false) (JT.is (jt_cmp (fun _ => op_gt) rv_I0 (je_lenL (K := K) (je_v 1 fun _ => pv 1) (fun _ => T.bt.len)) (je_num fun _ => T.MB) (nomark _)) (decide_eq_false (by rw [List.length_map]; omega))) (fun h => absurd h (by decide)) (fun _ P H S => w_nil ?_)
  refine w_for S (ji_enumL (K := K) (je_v 1 fun _ => pv 1) fun _ => T.bt.enumerate) (fun y => jg_tup2 (K := K) (jg_name 2 fun _ => pg_name scLI.nd rfl (by first | exact .inl rfl | exact .inr rfl)) (jg_name 3 fun _ => pg_name scLI.nd rfl (by first | exact .inl rfl | exact .inr rfl))) (fun pre => [.ow (oO C x []), .pr (pL (bs.map pK)), .un, .un]) (Wk.refl _) (by simp) ?_ ?_
  · intro xs' P0' H0' _ pre y post hys ow σ P H S
    obtain ⟨i, b⟩ := y
    have hb : b ∈ bs := idx_snd (p := (i, b)) (by rw [hys]; simp)
    refine w_if S (q := false) (JT.is (jt_not (jt_val (je_call (fun _ => cI _ hr) b (ja_cons (je_v 3 fun _ => pv 3) ja_nil) (fun k e => hk k (e ▸ hb))))) rfl) (fun h => absurd h (by decide)) (fun _ P H S => w_nil ?_)
    exact w_nil (at8 S (.keep (.keep (.drop (.drop .nil)))))
  · intro ow σ P H S
    refine w_fld 0 S (fun _ => pv 0) (je_tupleL (K := K) (je_v 1 fun _ => pv 1) (le_line (by rw [List.length_map]; omega)) (fun _ => T.bt.tuple)) c n1 (k := fun ow P H S => ?_)
    refine w_fld 0 S (fun _ => pv 0) (je_join (K := K) (ys := bs.map fun b => tx (kb b)) je_s (JE.is (JF.je (jf_lc [("block", 3)] [.un, .pr (pL (bs.map pK)), .un, .un] (ji_list (K := K) (je_v 1 fun _ => pv 1)) (fun _ => blkOk_by (N := nLI) (sc := defScope sLI) (by decide +kernel)) (.drop (.keep (.keep (.keep .nil)))) rfl
      (fun y => jg_name 3 fun _ => pg_name scLI.nd rfl (.inl rfl)) (by simp) (by simp) (fun _ => true) (fun b => pS (tx (kb b))) (fun b _ => jts_nil) (fun b hb _ => ?_) (le_line (by omega)) (fun _ => scLI.nd))) ?_) ?_) c n2 (hz := by show 1 < 1000; decide) (k := fun ow P H S => ?_)
    · cases b with
      | n k => exact je_strI (je_v 3 fun _ => pv 3) (log_small (by have := hk k hb; omega)) (fun _ => T.bt.str)
      | up => exact je_strS (je_v 3 fun _ => pv 3) (fun _ => T.bt.str)
      | dn => exact je_strS (je_v 3 fun _ => pv 3) (fun _ => T.bt.str)
    · rw [List.filter_eq_self.mpr (fun _ _ => rfl), List.map_map]
      rfl
    · have key : ∀ bs : Ln, (∀ k, Blk.n k ∈ bs → k ≤ 1000) → ((bs.map fun b => tx (kb b)).map (·.length)).sum ≤ bs.length * 1921 := by
        intro bs
        induction bs with
        | nil => intro _; simp
        | cons b bs ih =>
          intro h
          have h1 := ih fun k hk => h k (by simp [hk])
          have h2 := tx_len (b := b) fun k e => h k (by simp [e])
          simp only [List.map_cons, List.sum_cons, List.length_cons] at h1 ⊢
          omega
      have h1 := key bs fun k h => (hk k h).2
      have h2 : (" " : Str).length = 1 := rfl
      rw [h2, List.length_map]
      omega
    · exact w_nil (kQ _ _ _ _ _ S)
end
end K74
/-! Assignments to any target; unpacking a list. -/
namespace Ly
open PySem PySem.Spec PyProof.Rows L2
section
variable {ι : Type} {F : ι → Cx} {K : PySem.W.Frag}
/-- two targets from a list -/
theorem jg_lst2 {t1 t2 : Expr} {j1 j2 : List Nat} {R1 Rb : Pr} {f1 f2 : List Sl → List Sl} {kk : Nat} {pos : Pos} (h1 : JG F t1 j1 R1 f1) (h2 : JG F t2 j2 Rb f2) (hc : ∀ i, (F i).calm = true := by intro _; rfl)
    (s1 : ∀ i, (assignEach [t1, t2] (F i).env).map (·.2) = assign t1 (F i).env :: (assignEach [t2] (F i).env).map (·.2) := by intro _; rfl) (s2 : ∀ i, (assignEach [t2] (F i).env).map (·.2) = assign t2 (F i).env :: (assignEach [] (F i).env).map (·.2) := by intro _; rfl)
    (hn : ∀ i, (assignEach [t1, t2] (F i).env).length = 2 := by intro _; rfl) (hst : ∀ i, (assignEach [t1, t2] (F i).env).findIdx? (·.1) = none := by intro _; rfl) (hK : ∀ i, (F i).K = K := by intro _; rfl) :
    JG F (.Tuple [t1, t2] kk pos) (j1 ++ j2) (pL [R1, Rb]) (fun ss => f2 (f1 ss)) := fun xs P0 H0 ow σ P H ss S hj v r Q k => by
  obtain ⟨a, ys, rfl, h3, h4⟩ := r
  cases h4 with
  | @cons _ u _ us q1 h4 =>
    cases h4 with
    | @cons _ w _ ws q2 h4 =>
      cases h4
      refine ⟨gUnl K 2 (gCons (XG F t1) (gCons (XG F t2) gNil)), fun i => ?_, ?_⟩
      · have q := pg_unl (k := kk) (pos := pos) (n := 2) (hc i) (pgs_cons (xg i) (pgs_cons (xg i) pgs_nil (s2 i)) (s1 i)) (hn i) (hst i)
        rw [hK i] at q
        exact q
      · refine ⟨a, [u, w], rfl, .inl (S.ld.rd h3), rfl, u, [w], rfl, ?_⟩
        refine h1 xs P0 H0 ow σ P H ss S (fun j hj' => hj j (List.mem_append_left _ hj')) u q1 _ fun ow1 σ1 d1 S1 m1 l1 => ⟨w, [], rfl, ?_⟩
        refine h2 xs P0 H0 ow1 σ1 P H _ S1 (fun j hj' => by rw [l1]; exact hj j (List.mem_append_right _ hj')) w q2 _ fun ow2 σ2 d2 S2 m2 l2 => ⟨rfl, ?_⟩
        exact k ow2 σ2 (d1.trans d2) S2 (fun b hb => m1 b (m2 b hb)) (l2.trans l1)
end
section
variable {X : Cx} {xs : List Addr} {P0 H0 : Hp} {ow : List Addr} {σ : L2.St} {P H : Hp} {ss ss1 : List Sl} {R : Pr} {pos : Pos} {e tg : Expr} {rest : List Stmt} {D : Ends} {js : List Nat} {f : List Sl → List Sl}
/-- target = e, any target -/
theorem w_asgT (S : S8 xs P0 H0 ow σ P H ss) (h : JE (C1 X) e ss R ss1) (hg : JG (C1 X) tg js R f) (hj : ∀ j ∈ js, j < ss1.length) (k : ∀ ow σ P H, S8 xs P0 H0 ow σ P H (f ss1) → XS X rest D σ H) (hs : swapsWithSole [tg] e pos.line X.env = pure false := by rfl) (hw : swappedStores [tg] e X.env = pure none := by rfl)
    (h1 : (assignEach [tg] X.env).map (·.2) = [assign tg X.env] := by rfl) : XS X (.Assign [tg] e pos :: rest) D σ H :=
  w_cons ⟨_, ps_asg (xe (F := C1 X) ()) (xg (F := C1 X) ()) hs hw h1, h _ _ _ _ _ _ _ S _ fun v P2 H2 S2 _ r => hg _ _ _ _ _ _ _ _ S2 hj v r _ fun ow' σ' _ S3 _ _ => k ow' σ' P2 H2 S3⟩
end
/-- a method that is called on instances of the class at C -/
structure MetC (P : Program) (w : World) (K : PySem.W.Frag) (mg : Str → Option Value) (base : Heap) (A : Around) (C : Addr) (m : Str) (sp : Sp) : Prop where
  ex : ∃ (CX : CXT) (k : Nat) (f : Addr) (fd : FuncData) (ps : List Str), Cls K C ∧ Meth K C m f ∧ FnOk P w K mg base CX k f fd ps sp ∧ Room k A ∧ Binds K fd ps [] ∧ ∀ X : Cx, X.prog = P → X.w = w → Passes CX X E0
section
variable {ι : Type} {F : ι → Cx} {K : PySem.W.Frag} {ss ss1 ss2 : List Sl} {Rs : List Pr} {R : Pr} {m : Str} {apos pos : Pos} {o e : Expr} {es : List Expr} {C : Addr} {fs : List (Str × Pr)}
theorem je_meth {α : Type} {ar : α → List Pr} {pre : α → Prop} {res : α → Pr} (c : ∀ i, MetC (F i).prog (F i).w (F i).K (F i).mg (F i).base (F i).A C m (spF ar pre res)) (a : α) (ho : JE F o ss (pO C fs) ss1) (ha : JA F (e :: es) ss1 Rs ss2) (hp : pre a) (hm : fs.lookup m = none)
    (hA : ar a = pO C fs :: Rs := by rfl) (hR : res a = R := by rfl) (hst : ∀ i, starEach (e :: es) (F i).env = (false, eval e (F i).env) :: starEach es (F i).env := by intro _; rfl) (hpl : ∀ i, (backTo pos (starEach es (F i).env)).any (·.1) = false := by intro _; rfl)
    (pl : ι → Sem Bool)
    (ht : ∀ i, eval (.Call (.Attribute o m apos) (e :: es) [] pos) (F i).env = (do
      let ov ← eval o (F i).env
      standAt apos.atName
      let (f, first) ← holding [ov] (getMethod ov m (pl i))
      callWith pos f first (backTo pos (starEach (e :: es) (F i).env)) (backToKw pos (keywordEach [] (F i).env)))) :
    JE F (.Call (.Attribute o m apos) (e :: es) [] pos) ss R ss2 := fun xs P0 H0 ow σ P H S Q k =>
  ⟨tMeth C m (spF ar pre res) [] E0 (XE F o) (XA F (e :: es)), fun i => by
    obtain ⟨CX, kk, f, fd, ps, cc, me, G, hr, hb, hx⟩ := (c i).ex
    exact pe_meth (pl := pl i) (xe i) cc me G hr hb .nil (hx _ rfl rfl) (xa i) (hst i) (hpl i) (ht i), ho _ _ _ _ _ _ _ S _ fun v P2 H2 S2 e2 r2 => by
    obtain ⟨b, dx, ys, rfl, h2, h3⟩ := id r2
    refine ⟨b, dx, ys, rfl, S2.ld.at h2 (fun z => z), h3.no m hm, ha _ _ _ _ _ _ _ S2 _ fun vs P3 H3 S3 e3 r3 => ?_⟩
    rw [List.append_nil]
    refine ⟨P3, a, S3.ld, hp, hA ▸ .cons ((pO C fs).up e3 r2) r3, fun v P4 H4 g r => ?_⟩
    rw [hR] at r
    exact k v P4 H4 (S3.grow g) ((e2.trans e3).trans g.p) r⟩
end
section
variable {ι : Type} {F : ι → Cx} {K : PySem.W.Frag} {ss ss1 : List Sl} {Rs : List Pr} {p pos : Pos} {e : Expr}
/-- tuple(t), t a tuple -/
theorem je_tupleT (ha : JE F e ss (pT K Rs) ss1) (hm : ∀ i, (F i).mg "tuple" = none) (hg : ∀ i, Gl (F i) "tuple" := by intro _; rfl) (he : ∀ i, starEach [e] (F i).env = (false, eval e (F i).env) :: starEach [] (F i).env := by intro _; rfl)
    (hpl : ∀ i, (backTo pos (starEach [] (F i).env)).any (·.1) = false := by intro _; rfl) (hK : ∀ i, (F i).K = K := by intro _; rfl) : JE F (.Call (.Name "tuple" p) [e] [] pos) ss (pT K Rs) ss1 :=
  je_ct (r := fun xs H Q => ∃ p ys, xs = [.ref p] ∧ ((SqL K H p ys ∧ ∀ l, H l = none → Q (.ref l) (upd H l (.tup ys))) ∨ (SqT K H p ys ∧ Q (.ref p) H))) (fun i => hK i ▸ call_tuple_of) (fun P H vs Q l r k => by
    obtain ⟨v, rfl, r1⟩ := pl1 r
    obtain ⟨a, ys, rfl, h2, h3⟩ := id r1
    exact ⟨a, ys, rfl, .inr ⟨h2.sq l, k _ P H (Gr.refl l) r1⟩⟩) (ja_cons ha ja_nil he) hm (by decide +kernel) hg (by decide) (by decide) he hpl
end
end Ly
/-! Line.has, check_line_place -/
namespace K74
open PySem PySem.Spec PyProof.Rows L2 Ly M74
/-- a place as a list or a tuple -/
def pPl (K : PySem.W.Frag) (l : Bool) (i j : Int) : Pr := if l then pL [pI i, pI j] else pT K [pI i, pI j]
def ltB (b : Blk) (j : Int) : Bool := match b with
  | .n k => decide (j < k)
  | _ => false
def hasB (bs : Ln) (i j : Int) : Bool := if i < 0 ∨ (bs.length : Int) ≤ i ∨ j < 0 then false else match bs[i.toNat]? with
  | some b => isE b || ltB b j
  | none => false
abbrev sHas : Stmt := inClass (top 11) 4
abbrev nHas : List Str := ["self", "place", "index", "number", "block"]
theorem scHas : FnScope nHas ["self", "place"] (defScope sHas) := ⟨rfl, rfl, rfl, by decide +kernel, rfl, by decide +kernel, by decide +kernel⟩
abbrev pLn (K : PySem.W.Frag) (C : Addr) (bs : Ln) : Pr := pO C (fLn K bs)
abbrev spHas (K : PySem.W.Frag) (C : Addr) : Sp := spF (fun a : Ln × Bool × Int × Int => [pLn K C a.1, pPl K a.2.1 a.2.2.1 a.2.2.2]) (fun a => a.1.length ≤ 1000) (fun a => pB (hasB a.1 a.2.2.1 a.2.2.2))
section
variable {P : Program} {w : World} {K : PySem.W.Frag} {mg : Str → Option Value} {base : Heap} {C : Addr}
theorem lk_bl {bs : Ln} : (fLn K bs).lookup ("blocks" : Str) = some (pBs K bs) := rfl
theorem j23 {a b c d e : Sl} : ∀ j ∈ ([2] ++ [3] : List Nat), j < [a, b, c, d, e].length := fun j h => by
  have h : j = 2 ∨ j = 3 := by simpa using h
  show j < 5
  omega
theorem ok_has {f : Addr} {fd : FuncData} (F : Fun K "has" "Line.has" sHas f fd) (T : Cst K mg) (c : Cls K C) (n1 : NoAttr K C "blocks") : FnOk P w K mg base CX0 1 f fd ["self", "place"] (spHas K C) := by
  refine fnF 0 F scHas (fun _ => rfl) fun cdv A outer s H0 Q E hr P0 a σ pre S kQ => ?_
  obtain ⟨bs, l, i, j⟩ := a
  dsimp only at pre S kQ
  obtain ⟨aE, hE, tE⟩ := T.END
  have rest : ∀ (ow : List Addr) (σ : L2.St) (P1 H1 : Hp), S8 [] P0 H0 ow σ P1 H1 [.pr (pLn K C bs), .pr (pPl K l i j), .pr (pI i), .pr (pI j), .un] →
      XS (cxOf CX0 P w K mg base nHas "Line.has" (defScope sHas) f cdv A outer s H0 E).nox ((defBody sHas).drop 1) { nx := fun _ H' => Q .non H', rt := Q } σ H1 := by
    intro ow σ P1 H1 S
    refine w_if S (q := decide (i < 0) || (decide ((bs.length : Int) ≤ i) || decide (j < 0))) (jt_w (jw_or (jt_cmp (fun _ => op_lt) rv_I0 (je_v 2 fun _ => pv 2) je_i (nomark _)) fun _ => jw_or (JT.is (jt_cmp (fun _ => op_ge) rv_I0 (je_v 2 fun _ => pv 2) (je_lenT (K := K) (Rs := bs.map pK) (je_fld (K := K) (je_v 0 fun _ => pv 0) c n1 lk_bl) (fun _ => T.bt.len)) (nomark _)) (by rw [List.length_map])) fun _ => jw_or1 (jt_cmp (fun _ => op_lt) rv_I0 (je_v 3 fun _ => pv 3) je_i (nomark _)))) (fun h P H S => ?_) (fun h P H S => w_nil ?_)
    · have h : i < 0 ∨ (bs.length : Int) ≤ i ∨ j < 0 := by simpa using h
      refine w_ret S je_bl fun v P H S r => kQ v P H S.gr ?_
      show (pB (hasB bs i j)).p P v
      rw [show hasB bs i j = false from if_pos h]
      exact r
    · have h : ¬ (i < 0 ∨ (bs.length : Int) ≤ i ∨ j < 0) := by simpa using h
      obtain ⟨n, rfl⟩ : ∃ n : Nat, i = n := ⟨i.toNat, by omega⟩
      have hn : n < bs.length := by omega
      have hb : bs[n]? = some bs[n] := List.getElem?_eq_getElem hn
      generalize bs[n] = b at hb
      have hh : hasB bs n j = (isE b || ltB b j) := by
        unfold hasB
        rw [if_neg h]
        show (match bs[n]? with | some b => isE b || ltB b j | none => false) = _
        rw [hb]
      refine w_asg 4 S (je_ixT (K := K) (j := n) (je_fld (K := K) (je_v 0 fun _ => pv 0) c n1 lk_bl) (je_v 2 fun _ => pv 2) (fun _ _ => rfl) (by rw [List.length_map]; exact ixN_nat rfl hn) (by rw [List.getElem?_map, hb]; rfl)) (fun ow σ P H S => ?_) scHas.nd
      refine w_ret S (je_or (q := isE b) (q' := ltB b j) (JE.is (je_cmp (fun _ => op_in_seq) (rv_isC (K := K) (kb_flat b) END_flat) (je_v 4 fun _ => pv 4) (je_END (fun _ => hE) tE) rfl) (congrArg pB (inE_kb b))) fun h => je_one ?_) fun v P H S r => kQ v P H S.gr ?_
      · cases b with
        | n k => exact je_cmp (fun _ => op_lt) rv_I0 (je_v 3 fun _ => pv 3) (je_v 4 fun _ => pv 4) (nomark _)
        | up => exact absurd h (by decide)
        | dn => exact absurd h (by decide)
      · show (pB (hasB bs n j)).p P v
        rw [hh]
        exact r
  cases l with
  | true => exact w_asgT S (je_v 1 fun _ => pv 1) (jg_lst2 (K := K) (jg_name 2 fun _ => pg_name scHas.nd rfl (.inl rfl)) (jg_name 3 fun _ => pg_name scHas.nd rfl (.inl rfl))) j23 (fun ow σ P H S => rest ow σ P H S)
  | false => exact w_asgT S (je_v 1 fun _ => pv 1) (jg_tup2 (K := K) (jg_name 2 fun _ => pg_name scHas.nd rfl (.inl rfl)) (jg_name 3 fun _ => pg_name scHas.nd rfl (.inl rfl))) j23 (fun ow σ P H S => rest ow σ P H S)
end
section
variable {w : World} {K : PySem.W.Frag} {mg : Str → Option Value} {base : Heap} {cs : Cs}
abbrev sCP : Stmt := top 12
theorem scCP : FnScope ["line", "place"] ["line", "place"] (defScope sCP) := ⟨rfl, rfl, rfl, by decide +kernel, rfl, by decide +kernel, by decide +kernel⟩
abbrev erP (K : PySem.W.Frag) (cs : Cs) (i j : Int) : Er := ⟨cs.place, "place", pT K [pI i, pI j]⟩
def erCP (K : PySem.W.Frag) (cs : Cs) (a : Ln × Bool × Int × Int) : Option Er := if hasB a.1 a.2.2.1 a.2.2.2 = true then none else some (erP K cs a.2.2.1 a.2.2.2)
def preCP (a : Ln × Bool × Int × Int) : Prop := a.1.length ≤ 1000 ∧ a.2.2.1.natAbs ≤ 16000000 ∧ a.2.2.2.natAbs ≤ 16000000
abbrev spCP (K : PySem.W.Frag) (cs : Cs) : Sp := spX (fun a : Ln × Bool × Int × Int => [pLn K cs.Line a.1, pPl K a.2.1 a.2.2.1 a.2.2.2]) preCP (fun _ => pV .non) (erCP K cs)
theorem okPl_of {i j : Int} (hi : i.natAbs ≤ 16000000) (hj : j.natAbs ≤ 16000000) (P H : Hp) (v : V) (l : Ld P H) (r : (pT K [pI i, pI j]).p P v) : okPl K H v := by
  obtain ⟨a, ys, rfl, h2, h3, h4⟩ := r
  cases h3 with
  | cons r1 h3 => cases h3 with
    | cons r2 h3 =>
      cases h3
      obtain rfl := r1
      obtain rfl := r2
      exact ⟨a, i, j, rfl, h2.sq l, log_small hi, log_small hj⟩
theorem ok_CP {f : Addr} {fd : FuncData} (F : FnP K "check_line_place" sCP f fd) (rc : RaiseK PP w K mg base "BadPlace" cs.place "place" (okPl K)) (T : Cst K mg) (ch : ∀ A : Around, Room 2 A → MetC PP w K mg base A cs.Line "has" (spHas K cs.Line)) :
    FnOk PP w K mg base (L2.CX PP w) 3 f fd ["line", "place"] (spCP K cs) := by
  refine fnX 2 F scCP (fun _ => rfl) fun X cdv A outer s H0 Q E hX hr tk P0 a σ pre S kQ kE => ?_
  obtain ⟨bs, l, i, j⟩ := a
  obtain ⟨h1, h2, h3⟩ := pre
  dsimp only at h1 h2 h3 S
  subst hX
  refine w_if S (q := !hasB bs i j) (jt_not (jt_val (je_meth (fun _ => ch _ hr) (bs, l, i, j) (je_v 0 fun _ => pv 0) (ja_cons (je_v 1 fun _ => pv 1) ja_nil) h1 rfl (pl := _) (ht := fun _ => rfl)))) (fun h P H S => ?_) (fun h P H S => w_nil ?_)
  · have h : hasB bs i j = false := by simpa using h
    have ht : ∀ p1 p2 p3 : Pos, JE (C1 (cxOf (L2.CX PP w) PP w K mg base ["line", "place"] "check_line_place" (defScope sCP) f cdv A outer s H0 E)) (.Call (.Name "tuple" p1) [.Name "place" p2] [] p3) [.pr (pLn K cs.Line bs), .pr (pPl K l i j)] (pT K [pI i, pI j]) [.pr (pLn K cs.Line bs), .pr (pPl K l i j)] := fun p1 p2 p3 => by
      cases l with
      | true => exact je_tupleL (K := K) (Rs := [pI i, pI j]) (je_v 1 fun _ => pv 1) (le_line (by simp)) (fun _ => T.bt.tuple)
      | false => exact je_tupleT (K := K) (je_v 1 fun _ => pv 1) (fun _ => T.bt.tuple)
    exact w_raiseK S tk rc hr (ht _ _ _) (fun P H v l r => okPl_of h2 h3 P H v l r) fun d y P H S e1 e2 e3 => kE (erP K cs i j) (if_neg (by show ¬ hasB bs i j = true; rw [h]; decide)) d y P H S.gr e1 e2 e3
  · have h : hasB bs i j = true := by simpa using h
    exact w_nil (kQ (if_pos h) _ _ _ S.gr rfl)
end
end K74
/-! lines_alike, line_pair -/
namespace K74
open PySem PySem.Spec PyProof.Rows L2 Ly M74
section
variable {w : World} {K : PySem.W.Frag} {mg : Str → Option Value} {base : Heap} {cs : Cs}
/-- what is told of the class of lines -/
structure LnK (K : PySem.W.Frag) (C : Addr) : Prop where
  c : Cls K C
  bl : NoAttr K C "blocks"
  tx : NoAttr K C "text"
abbrev sLA : Stmt := top 20
theorem scLA : FnScope ["first", "second", "rounds"] ["first", "second", "rounds"] (defScope sLA) := ⟨rfl, rfl, rfl, by decide +kernel, rfl, by decide +kernel, by decide +kernel⟩
def preLA (a : Ln × Ln × Int) : Prop := a.2.2.natAbs ≤ 16000000 ∧ (0 ≤ a.2.2 → a.2.2 ≤ 5 → preBA a.1 a.2.1 a.2.2.toNat)
noncomputable abbrev spLA (K : PySem.W.Frag) (cs : Cs) : Sp := spX (fun a : Ln × Ln × Int => [pLn K cs.Line a.1, pLn K cs.Line a.2.1, pI a.2.2]) preLA (fun a => pB (eB a.2.2.toNat a.1 a.2.1)) (fun a => erCR cs (a.2.2, 0))
theorem ok_LA {f : Addr} {fd : FuncData} (F : FnP K "lines_alike" sLA f fd) (T : LnK K cs.Line) (cR : ∀ A : Around, Room 3 A → CalR PP w K mg base A "check_line_rounds" (spCR cs)) (cB : ∀ A : Around, Room 6 A → Cal PP w K mg base A "_blocks_alike" (spBA K)) :
    FnOk PP w K mg base (L2.CX PP w) 7 f fd ["first", "second", "rounds"] (spLA K cs) := by
  refine fnX 6 F scLA (fun _ => rfl) fun X cdv A outer s H0 Q E hX hr tk P0 a σ pre S kQ kE => ?_
  obtain ⟨x, y, r⟩ := a
  obtain ⟨h1, h2⟩ := pre
  dsimp only at h1 h2 S kQ kE
  subst hX
  refine w_callX S tk (cR _ (hr.mono (by decide))) (r, 0) (ja_cons (je_v 2 fun _ => pv 2) (ja_cons je_i ja_nil)) h1 (fun hn P H S => ?_) (fun e he d y P H S e1 e2 e3 => kE e he d y P H S.gr e1 e2 e3)
  have hr5 : ¬ (r < 0 ∨ 5 < r) := fun z => by
    unfold erCR at hn
    rw [if_pos z] at hn
    cases hn
  obtain ⟨n, rfl⟩ : ∃ n : Nat, r = n := ⟨r.toNat, by omega⟩
  have pr := h2 (by omega) (by omega)
  exact w_ret S (je_call (fun _ => cB _ hr) (x, y, n) (ja_cons (je_fld (K := K) (je_v 0 fun _ => pv 0) T.c T.bl lk_bl) (ja_cons (je_fld (K := K) (je_v 1 fun _ => pv 1) T.c T.bl lk_bl) (ja_cons (je_v 2 fun _ => pv 2) ja_nil))) pr) fun v P H S r => kQ hn v P H S.gr r
/-! ### line_pair -/
abbrev sLP : Stmt := top 22
theorem scLP : FnScope ["rounds"] ["rounds"] (defScope sLP) := ⟨rfl, rfl, rfl, by decide +kernel, rfl, by decide +kernel, by decide +kernel⟩
abbrev spLP (K : PySem.W.Frag) (cs : Cs) : Sp := spX (fun r : Int => [pI r]) (fun r => r.natAbs ≤ 16000000) (fun r => pT K [pLn K cs.Line [.n (2 ^ r.toNat - 1)], pLn K cs.Line [.up, .dn]]) (fun r => erCR cs (r, 1))
theorem ok_LP {f : Addr} {fd : FuncData} (F : FnP K "line_pair" sLP f fd) (cR : ∀ A : Around, Room 3 A → CalR PP w K mg base A "check_line_rounds" (spCR cs)) (cL : ∀ A : Around, Room 3 A → MakC PP w K mg base A "Line" cs.Line (spLI K cs.Line)) :
    FnOk PP w K mg base (L2.CX PP w) 4 f fd ["rounds"] (spLP K cs) := by
  refine fnX 3 F scLP (fun _ => rfl) fun X cdv A outer s H0 Q E hX hr tk P0 r σ pre S kQ kE => ?_
  subst hX
  refine w_callX S tk (cR _ hr) (r, 1) (ja_cons (je_v 0 fun _ => pv 0) (ja_cons je_i ja_nil)) pre (fun hn P H S => ?_) (fun e he d y P H S e1 e2 e3 => kE e he d y P H S.gr e1 e2 e3)
  have hr5 : ¬ (r < 1 ∨ 5 < r) := fun z => by
    unfold erCR at hn
    rw [if_pos z] at hn
    cases hn
  obtain ⟨n, rfl⟩ : ∃ n : Nat, r = n := ⟨r.toNat, by omega⟩
  have h2 : 2 ^ n ≤ 2 ^ 5 := Nat.pow_le_pow_right (by decide) (by omega)
  have h3 : 2 ^ 1 ≤ 2 ^ n := Nat.pow_le_pow_right (by decide) (by omega)
  have e5 : 2 ^ 5 = 32 := rfl
  have e1 : 2 ^ 1 = 2 := rfl
  refine w_ret S (je_tup K (ja_cons (je_make (fun _ => cL _ hr) ([.n (2 ^ n - 1)] : Ln) (ja_cons (JF.je (jf_lst (ja_cons (JE.is (je_sub (je_shl je_i (je_v 0 fun _ => pv 0) ⟨by omega, by omega, by decide⟩) je_i) (congrArg (fun z => pI z) (shl_nat n))) ja_nil))) ja_nil) ?_) (ja_cons (je_make (fun _ => cL _ hr) ([.up, .dn] : Ln) (ja_cons (JF.je (jf_lst (ja_cons je_s (ja_cons je_s ja_nil)))) ja_nil) ?_) ja_nil))) fun v P H S r => kQ hn v P H S.gr r
  · refine ⟨by simp, fun k hk => ?_⟩
    have hk : k = 2 ^ n - 1 := by simpa using hk
    omega
  · exact ⟨by simp, fun k hk => by simp at hk⟩
end
end K74
/-! == of data: numbers, texts, tuples, lists. -/
namespace Ly
open PySem PySem.Spec PyProof.Rows L2
/-- values of R are the datum d -/
def PD (K : PySem.W.Frag) (R : Pr) (d : PyData) : Prop := ∀ (P H : Hp) (v : V), Ld P H → R.p P v → Dp K H v d
def PDL (K : PySem.W.Frag) (Rs : List Pr) (ds : List PyData) : Prop := ∀ (P H : Hp) (vs : List V), Ld P H → PL P Rs vs → DpAll K H vs ds
section
variable {K : PySem.W.Frag}
theorem pd_i {i : Int} : PD K (pI i) (.int i) := fun _ _ _ _ r => by obtain rfl := r; exact .int i
theorem pd_s {x : Str} : PD K (pS x) (.str x) := fun _ _ _ _ r => by obtain rfl := r; exact .str x
theorem pd_b {b : Bool} : PD K (pB b) (.bool b) := fun _ _ _ _ r => by obtain rfl := r; exact .bl b
theorem pd_n : PD K pN .none := fun _ _ _ _ r => by obtain rfl := r; exact .non
theorem pdl_nil : PDL K [] [] := fun _ _ _ _ r => by cases r; exact .nil
theorem pdl_cons {R : Pr} {Rs : List Pr} {d : PyData} {ds : List PyData} (h : PD K R d) (t : PDL K Rs ds) : PDL K (R :: Rs) (d :: ds) := fun P H vs l r => by
  cases r with
  | cons r1 r2 => exact .cons (h P H _ l r1) (t P H _ l r2)
theorem pdl_map {α : Type} {r : α → Pr} {d : α → PyData} (h : ∀ y, PD K (r y) (d y)) : ∀ ys : List α, PDL K (ys.map r) (ys.map d)
  | [] => pdl_nil
  | y :: ys => pdl_cons (h y) (pdl_map h ys)
theorem pd_t {Rs : List Pr} {ds : List PyData} (h : PDL K Rs ds) : PD K (pT K Rs) (.tuple ds) := fun P H v l r => by
  obtain ⟨a, ys, rfl, h2, h3, _⟩ := r
  exact .tup (h2.sq l) (h P H ys l h3)
theorem pd_l {Rs : List Pr} {ds : List PyData} (h : PDL K Rs ds) : PD K (pL Rs) (.list ds) := fun P H v l r => by
  obtain ⟨a, ys, rfl, h2, h3⟩ := r
  exact .lst (.inl (l.rd h2)) (h P H ys l h3)
theorem rv_eqD {Ra Rb : Pr} {d e : PyData} (ha : PD K Ra d) (hb : PD K Rb e) (sd : SeqAt.shaped d = true) (se : SeqAt.shaped e = true) : RVr (rEqD K) Ra Rb (pB (PyData.eqv d e)) := rv0 fun P H u v Q l a b k =>
  ⟨d, e, ha P H u l a, hb P H v l b, sd, se, k _ rfl⟩
end
section
variable {ι : Type} {F : ι → Cx} {K : PySem.W.Frag} {ss ss1 ss2 : List Sl} {Ra Rb : Pr} {pos : Pos} {a b : Expr} {d e : PyData}
theorem je_eqD (ha : JE F a ss Ra ss1) (hb : JE F b ss1 Rb ss2) (da : PD K Ra d) (db : PD K Rb e) (sd : SeqAt.shaped d = true) (se : SeqAt.shaped e = true) (hu : ∀ i, (F i).A.units + 64 < cLine) (hm : behindInMarks .Eq b = false) (hK : ∀ i, (F i).K = K := by intro _; rfl) :
    JE F (.Compare a [.Eq] [b] pos) ss (pB (PyData.eqv d e)) ss2 := je_cmp (fun i => hK i ▸ op_eqD (hu i)) (rv_eqD da db sd se) ha hb hm
theorem jt_eqD (ha : JE F a ss Ra ss1) (hb : JE F b ss1 Rb ss2) (da : PD K Ra d) (db : PD K Rb e) (sd : SeqAt.shaped d = true) (se : SeqAt.shaped e = true) (hu : ∀ i, (F i).A.units + 64 < cLine) (hm : behindInMarks .Eq b = false) (hK : ∀ i, (F i).K = K := by intro _; rfl) :
    JT F (.Compare a [.Eq] [b] pos) ss (PyData.eqv d e) ss2 := jt_cmp (fun i => hK i ▸ op_eqD (hu i)) (rv_eqD da db sd se) ha hb hm
end
theorem room64 {A : Around} {k : Nat} (h : Room k A) : A.units + 64 < cLine := by have := h.un; omega
end Ly
/-! line_answer -/
namespace K74
open PySem PySem.Spec PyProof.Rows L2 Ly M74
/-- the halves at p in f and at q in g are alike for r rounds -/
noncomputable def e2B (r : Nat) (f : Ln) (p : NP) (g : Ln) (q : NP) : Bool := @decide (E2 r f p g q) (Classical.propDecidable _)
theorem e2B_iff {r : Nat} {f g : Ln} {p q : NP} : e2B r f p g q = true ↔ E2 r f p g q := by unfold e2B; exact @decide_eq_true_iff _ (Classical.propDecidable _)
/-- all right answers, in order -/
noncomputable def ansL (r : Nat) (f : Ln) (p : NP) (g : Ln) : List NP := (plc (2 ^ r - 1) g).filter fun q => e2B r f p g q
noncomputable def ans (r : Nat) (f : Ln) (p : NP) (g : Ln) : NP := ((ansL r f p g)[0]?).getD (0, 0)
theorem ansL_ne {r : Nat} {f g : Ln} {p : NP} (h : E (r + 1) f g) (hp : Plc f p) : ∃ q, (ansL r f p g)[0]? = some q := by
  obtain ⟨q, hq, e⟩ := (E_plc.mp h).1 p hp
  obtain ⟨q', hq', _, e'⟩ := plc_enough r hq
  have hm : q' ∈ ansL r f p g := List.mem_filter.mpr ⟨hq', e2B_iff.mpr (e.trans e')⟩
  cases h0 : ansL r f p g with
  | nil => rw [h0] at hm; cases hm
  | cons a l => exact ⟨a, rfl⟩
/-- the forms that are numbered -/
def anF (l : Nat) (own : Ln) (p : NP) (other : Ln) : List Ln := (((plc (2 ^ l - 1) other).map fun q => hv (2 ^ l - 1) other q.1 q.2) ++ [hv (2 ^ l - 1) own p.1 p.2]).flatMap fun pr => [pr.1, pr.2]
structure LAx where
  x : Ln
  y : Ln
  r : Int
  s : Int
  l : Bool
  i : Int
  j : Int
def LAx.own (a : LAx) : Ln := if a.s = 1 then a.y else a.x
def LAx.other (a : LAx) : Ln := if a.s = 1 then a.x else a.y
def LAx.bad (a : LAx) : Prop := a.r < 1 ∨ 5 < a.r
def LAx.badS (a : LAx) : Prop := a.s < 0 ∨ 1 < a.s
open Classical in
noncomputable def erAn (K : PySem.W.Frag) (cs : Cs) (a : LAx) : Option Er := if a.r < 1 ∨ 5 < a.r then some (erI cs.count "count" a.r) else if a.s < 0 ∨ 1 < a.s then some (erI cs.count "count" a.s) else
  if hasB a.own a.i a.j = false then some (erP K cs a.i a.j) else if eB a.r.toNat a.x a.y = false then some (erI cs.apart "rounds" a.r) else none
/-- small enough, if it comes that far -/
structure preAn (a : LAx) : Prop where
  r : a.r.natAbs ≤ 16000000
  s : a.s.natAbs ≤ 16000000
  i : a.i.natAbs ≤ 16000000
  j : a.j.natAbs ≤ 16000000
  x : a.x.length ≤ 50
  y : a.y.length ≤ 50
  nx : ∀ k, Blk.n k ∈ a.x → k ≤ 1000
  ny : ∀ k, Blk.n k ∈ a.y → k ≤ 1000
  px : Pos a.x
  py : Pos a.y
  ba : 1 ≤ a.r → a.r ≤ 5 → preBA a.x a.y a.r.toNat
  fn : 1 ≤ a.r → a.r ≤ 5 → 0 ≤ a.s → a.s ≤ 1 → hasB a.own a.i a.j = true → preFN (anF (a.r.toNat - 1) a.own (a.i.toNat, a.j.toNat) a.other) (a.r.toNat - 1)
theorem hasB_plc {f : Ln} {i j : Int} (h : hasB f i j = true) : 0 ≤ i ∧ 0 ≤ j ∧ Plc f (i.toNat, j.toNat) := by
  unfold hasB at h
  split at h
  · cases h
  · rename_i hn
    have h1 : 0 ≤ i := by omega
    have h2 : 0 ≤ j := by omega
    refine ⟨h1, h2, ?_⟩
    split at h
    · rename_i b hb
      refine ⟨b, hb, ?_⟩
      cases b with
      | n k =>
        have : j < k := by simpa [isE, ltB] using h
        show j.toNat < k
        omega
      | up => trivial
      | dn => trivial
    · cases h
noncomputable abbrev spAn (K : PySem.W.Frag) (cs : Cs) : Sp := spX (fun a : LAx => [pLn K cs.Line a.x, pLn K cs.Line a.y, pI a.r, pI a.s, pPl K a.l a.i a.j]) preAn (fun a => pP2 K (ans (a.r.toNat - 1) a.own (a.i.toNat, a.j.toNat) a.other)) (erAn K cs)
theorem sh2 (a b : Nat) : SeqAt.shaped (.tuple [.int (a : Int), .int (b : Int)]) = true := rfl
section
variable {w : World} {K : PySem.W.Frag} {mg : Str → Option Value} {base : Heap} {cs : Cs}
abbrev sAn : Stmt := top 21
abbrev nAn : List Str := ["first", "second", "rounds", "side", "place", "own", "other", "most", "wanted", "places", "halves", "numbers", "found", "index", "number", "pair", "form", "at"]
theorem scAn : FnScope nAn ["first", "second", "rounds", "side", "place"] (defScope sAn) := ⟨rfl, rfl, rfl, by decide +kernel, rfl, by decide +kernel, by decide +kernel⟩
theorem ok_An {f : Addr} {fd : FuncData} (F : FnP K "line_answer" sAn f fd) (T : Cst K mg) (TL : LnK K cs.Line) (rc : RaiseK PP w K mg base "BadCount" cs.count "count" okI) (ra : RaiseK PP w K mg base "Apart" cs.apart "rounds" okI)
    (cR : ∀ A : Around, Room 3 A → CalR PP w K mg base A "check_line_rounds" (spCR cs)) (cP : ∀ A : Around, Room 3 A → CalR PP w K mg base A "check_line_place" (spCP K cs)) (cB : ∀ A : Around, Room 6 A → Cal PP w K mg base A "_blocks_alike" (spBA K))
    (cH : ∀ A : Around, Room 6 A → Cal PP w K mg base A "_halves" (spHalves K)) (cE : ∀ A : Around, Room 6 A → Cal PP w K mg base A "_enough_places" (spPlc K)) (cN : ∀ A : Around, Room 6 A → Cal PP w K mg base A "_form_numbers" (spFN w K)) (cO : ∀ A : Around, Room 6 A → Cal PP w K mg base A "_numbers_of" (spNumOf w K)) :
    FnOk PP w K mg base (L2.CX PP w) 7 f fd ["first", "second", "rounds", "side", "place"] (spAn K cs) := by
  refine fnX 6 F scAn (fun _ => rfl) fun X cdv A outer s H0 Q E hX hr tk P0 a σ pre S kQ kE => ?_
  obtain ⟨x, y, r, sd, l, i, j⟩ := a
  obtain ⟨hr1, hs1, hi1, hj1, hx, hy, nx, ny, px, py, ba, fn⟩ := pre
  subst hX
  dsimp only at hr1 hs1 hi1 hj1 hx hy nx ny px py ba fn S
  have hokI : ∀ {z : Int}, z.natAbs ≤ 16000000 → ∀ (P H : Hp) (v : V), Ld P H → (pI z).p P v → okI H v := fun {z} hz P H v _ e => ⟨z, e, log_small hz⟩
  refine w_callX S tk (cR _ (hr.mono (by decide))) (r, 1) (ja_cons (je_v 2 fun _ => pv 2) (ja_cons je_i ja_nil)) hr1 (fun hn P H S => ?_) (fun e he d z P H S e1 e2 e3 => ?_)
  rotate_left
  · unfold erCR at he
    split at he
    · rename_i hbad
      refine kE e ?_ d z P H S.gr e1 e2 e3
      unfold erAn
      rw [if_pos hbad]
      exact he
    · cases he
  have hr5 : ¬ (r < 1 ∨ 5 < r) := fun z => by
    unfold erCR at hn
    rw [if_pos z] at hn
    cases hn
  refine w_if S (q := decide (sd < 0)) (jt_cmp (fun _ => op_lt) rv_I0 (je_v 3 fun _ => pv 3) je_i (nomark _)) (fun h P H S => ?_) (fun h1 P H S => w_nil ?_)
  · have h : sd < 0 := by simpa using h
    refine w_raiseK S tk rc (hr.mono (by decide)) (je_v 3 fun _ => pv 3) (hokI hs1) fun d z P H S e1 e2 e3 => kE (erI cs.count "count" sd) ?_ d z P H S.gr e1 e2 e3
    unfold erAn
    rw [if_neg hr5, if_pos (.inl h)]
  have h1 : ¬ sd < 0 := by simpa using h1
  refine w_if S (q := decide (1 < sd)) (jt_cmp (fun _ => op_gt) rv_I0 (je_v 3 fun _ => pv 3) je_i (nomark _)) (fun h P H S => ?_) (fun h2 P H S => w_nil ?_)
  · have h : 1 < sd := by simpa using h
    refine w_raiseK S tk rc (hr.mono (by decide)) (je_v 3 fun _ => pv 3) (hokI hs1) fun d z P H S e1 e2 e3 => kE (erI cs.count "count" sd) ?_ d z P H S.gr e1 e2 e3
    unfold erAn
    rw [if_neg hr5, if_pos (.inr h)]
  have h2 : ¬ 1 < sd := by simpa using h2
  have hsd : ¬ (sd < 0 ∨ 1 < sd) := fun z => z.elim h1 h2
  generalize hown : (LAx.mk x y r sd l i j).own = own at fn kQ kE
  generalize hoth : (LAx.mk x y r sd l i j).other = other at fn kQ kE
  have eown : own = if sd = 1 then y else x := by rw [← hown]; rfl
  have eoth : other = if sd = 1 then x else y := by rw [← hoth]; rfl
  refine w_asg 5 (R := pLn K cs.Line own) S (je_if (q := decide (sd = 1)) (jt_cmp (fun _ => op_eq) rv_eqI (je_v 3 fun _ => pv 3) je_i (nomark _)) (fun h => by
    have h : sd = 1 := by simpa using h
    rw [eown, if_pos h]
    exact je_v 1 fun _ => pv 1) (fun h => by
    have h : ¬ sd = 1 := by simpa using h
    rw [eown, if_neg h]
    exact je_v 0 fun _ => pv 0)) (fun ow σ P H S => ?_) scAn.nd
  refine w_asg 6 (R := pLn K cs.Line other) S (je_if (q := decide (sd = 1)) (jt_cmp (fun _ => op_eq) rv_eqI (je_v 3 fun _ => pv 3) je_i (nomark _)) (fun h => by
    have h : sd = 1 := by simpa using h
    rw [eoth, if_pos h]
    exact je_v 0 fun _ => pv 0) (fun h => by
    have h : ¬ sd = 1 := by simpa using h
    rw [eoth, if_neg h]
    exact je_v 1 fun _ => pv 1)) (fun ow σ P H S => ?_) scAn.nd
  have hxy : own.length ≤ 50 ∧ other.length ≤ 50 ∧ (∀ k, Blk.n k ∈ own → k ≤ 1000) ∧ (∀ k, Blk.n k ∈ other → k ≤ 1000) ∧ Pos own ∧ Pos other := by
    rw [eown, eoth]
    by_cases h : sd = 1
    · rw [if_pos h, if_pos h]; exact ⟨hy, hx, ny, nx, py, px⟩
    · rw [if_neg h, if_neg h]; exact ⟨hx, hy, nx, ny, px, py⟩
  obtain ⟨lo, lt, no, nt, po, pt⟩ := hxy
  refine w_callX S tk (cP _ (hr.mono (by decide))) (own, l, i, j) (ja_cons (je_v 5 fun _ => pv 5) (ja_cons (je_v 4 fun _ => pv 4) ja_nil)) ⟨by show own.length ≤ 1000; omega, hi1, hj1⟩ (fun hn2 P H S => ?_) (fun e he d z P H S e1 e2 e3 => ?_)
  rotate_left
  · unfold erCP at he
    split at he
    · cases he
    · rename_i hbad
      have hbad : hasB own i j = false := by simpa using hbad
      refine kE e ?_ d z P H S.gr e1 e2 e3
      unfold erAn
      rw [if_neg hr5, if_neg hsd, hown, if_pos hbad]
      exact he
  have hhas : hasB own i j = true := by
    unfold erCP at hn2
    split at hn2
    · assumption
    · cases hn2
  obtain ⟨i0, j0, hpl⟩ := hasB_plc hhas
  obtain ⟨ii, rfl⟩ : ∃ n : Nat, i = n := ⟨i.toNat, by omega⟩
  obtain ⟨jj, rfl⟩ : ∃ n : Nat, j = n := ⟨j.toNat, by omega⟩
  obtain ⟨n, rfl⟩ : ∃ n : Nat, r = ((n + 1 : Nat) : Int) := ⟨r.toNat - 1, by omega⟩
  have hn4 : n ≤ 4 := by omega
  have hba := ba (by omega) (by omega)
  have hfn := fn (by omega) (by omega) (by omega) (by omega) hhas
  rw [show (((n + 1 : Nat) : Int)).toNat = n + 1 from rfl] at hba hfn
  rw [show n + 1 - 1 = n from rfl] at hfn
  refine w_if S (q := !eB (n + 1) x y) (jt_not (jt_val (je_call (fun _ => cB _ hr) (x, y, n + 1) (ja_cons (je_fld (K := K) (je_v 0 fun _ => pv 0) TL.c TL.bl lk_bl) (ja_cons (je_fld (K := K) (je_v 1 fun _ => pv 1) TL.c TL.bl lk_bl) (ja_cons (je_v 2 fun _ => pv 2) ja_nil))) hba))) (fun h P H S => ?_) (fun h3 P H S => w_nil ?_)
  · have h : eB (n + 1) x y = false := by simpa using h
    refine w_raiseK S tk ra (hr.mono (by decide)) (je_v 2 fun _ => pv 2) (hokI hr1) fun d z P H S e1 e2 e3 => kE (erI cs.apart "rounds" ((n + 1 : Nat) : Int)) ?_ d z P H S.gr e1 e2 e3
    unfold erAn
    rw [if_neg hr5, if_neg hsd, hown, if_neg (by rw [hhas]; decide)]
    exact if_pos h
  have h3 : eB (n + 1) x y = true := by simpa using h3
  have hE : M74.E (n + 1) own other := by
    have h := eB_iff.mp h3
    rw [eown, eoth]
    by_cases z : sd = 1
    · rw [if_pos z, if_pos z]; exact h.symm
    · rw [if_neg z, if_neg z]; exact h
  have hnone : erAn K cs ⟨x, y, ((n + 1 : Nat) : Int), sd, l, ii, jj⟩ = none := by
    unfold erAn
    rw [if_neg hr5, if_neg hsd, hown, if_neg (by rw [hhas]; decide)]
    exact if_neg (by show ¬ eB (n + 1) x y = false; rw [h3]; decide)
  have hsm : 2 ^ n ≤ 2 ^ 4 := Nat.pow_le_pow_right (by decide) hn4
  have e4 : 2 ^ 4 = 16 := rfl
  have hp1 : 0 < 2 ^ n := Nat.pos_of_ne_zero (by simp)
  have e0 : pI (((n + 1 : Nat) : Int) - 1) = pI (n : Int) := congrArg (fun z => pI z) (by omega)
  refine w_asg 7 (R := pI (2 ^ n - 1 : Nat)) S (JE.is (je_sub (je_shl (i := 1) (j := (n : Int)) je_i (JE.is (je_sub (je_v 2 fun _ => pv 2) je_i) e0) ⟨by omega, by omega, by decide⟩) je_i) (congrArg (fun z => pI z) (shl_nat n))) (fun ow σ P H S => ?_) scAn.nd
  generalize hm : 2 ^ n - 1 = most at S
  have hmost : most ≤ 15 := by omega
  have ix0 : ∀ (p1 p2 p3 : Pos) (k : Nat) (ss : List Sl), ss[4]? = some (.pr (pPl K l ii jj)) → JE (C1 (cxOf (L2.CX PP w) PP w K mg base nAn "line_answer" (defScope sAn) f cdv A outer s H0 E)) (.Subscript (.Name "place" p1) (.Constant (.int 0) k p2) p3) ss (pI ii) ss := fun p1 p2 p3 k ss h => by
    cases l with
    | true => exact je_ixL (Rs := [pI ii, pI jj]) (j := 0) (je_v 4 (fun _ => pv 4) h) je_i (fun _ _ => rfl) rfl rfl
    | false => exact je_ixT (K := K) (Rs := [pI ii, pI jj]) (j := 0) (je_v 4 (fun _ => pv 4) h) je_i (fun _ _ => rfl) rfl rfl
  have ix1 : ∀ (p1 p2 p3 : Pos) (k : Nat) (ss : List Sl), ss[4]? = some (.pr (pPl K l ii jj)) → JE (C1 (cxOf (L2.CX PP w) PP w K mg base nAn "line_answer" (defScope sAn) f cdv A outer s H0 E)) (.Subscript (.Name "place" p1) (.Constant (.int 1) k p2) p3) ss (pI jj) ss := fun p1 p2 p3 k ss h => by
    cases l with
    | true => exact je_ixL (Rs := [pI ii, pI jj]) (j := 1) (je_v 4 (fun _ => pv 4) h) je_i (fun _ _ => rfl) rfl rfl
    | false => exact je_ixT (K := K) (Rs := [pI ii, pI jj]) (j := 1) (je_v 4 (fun _ => pv 4) h) je_i (fun _ _ => rfl) rfl rfl
  obtain ⟨bo, hbo, ojo⟩ := id hpl
  have hbo : own[ii]? = some bo := hbo
  have hii : ii < own.length := (List.getElem?_eq_some_iff.mp hbo).1
  refine w_asg 8 S (je_call (fun _ => cH _ hr) (own, ii, jj, most) (ja_cons (je_fld (K := K) (je_v 5 fun _ => pv 5) TL.c TL.bl lk_bl) (ja_cons (ix0 _ _ _ _ _ rfl) (ja_cons (ix1 _ _ _ _ _ rfl) (ja_cons (je_v 7 fun _ => pv 7) ja_nil)))) ⟨by show own.length ≤ 100; omega, hii, fun b hb => ?_⟩) (fun ow σ P H S => ?_) scAn.nd
  · have hb : own[ii]? = some b := hb
    rw [hbo] at hb
    cases hb
    exact ojo
  refine w_asg 9 S (je_call (fun _ => cE _ hr) (other, most) (ja_cons (je_fld (K := K) (je_v 6 fun _ => pv 6) TL.c TL.bl lk_bl) (ja_cons (je_v 7 fun _ => pv 7) ja_nil)) ⟨lt, by show most ≤ 1000; omega, nt⟩) (fun ow σ P H S => ?_) scAn.nd
  have hpl2 : (plc most other).length ≤ 1550 := by
    have h := (plc_len n other).2
    rw [hm] at h
    have h5 : other.length * (2 * 2 ^ n - 1) ≤ 50 * 31 := Nat.mul_le_mul lt (by omega)
    omega
  refine w_asgMP 10 (R := pL ((plc most other).map fun q => pHv K (hv most other q.1 q.2))) S (JM.is (jm_lc1 (α := NP) [("index", 13), ("number", 14)] [.pr (pLn K cs.Line x), .pr (pLn K cs.Line y), .pr (pI ((n + 1 : Nat) : Int)), .pr (pI sd), .pr (pPl K l ii jj), .pr (pLn K cs.Line own), .pr (pLn K cs.Line other), .pr (pI most), .pr (pHv K (hv most own ii jj)), .pr (pL ((plc most other).map (pP2 K))), .un, .un, .un, .un, .un, .un, .un, .un] (fun _ => true) (fun q : NP => pHv K (hv most other q.1 q.2)) (ji_list (K := K) (je_v 9 fun _ => pv 9)) (fun _ => blkOk_by (N := nAn) (sc := defScope sAn) (by decide +kernel)) (Wk.refl _) rfl
    (fun y => jg_tup2 (K := K) (jg_name 13 fun _ => pg_name scAn.nd rfl (by first | exact .inl rfl | exact .inr rfl)) (jg_name 14 fun _ => pg_name scAn.nd rfl (by first | exact .inl rfl | exact .inr rfl))) (by simp) (by simp) (fun _ _ => jts_nil)
    (fun (q : NP) hq _ => je_call (Cal.blk fun _ => cH _ hr) ((other, q.1, q.2, most) : Ln × Nat × Nat × Nat) (ja_cons (je_fld (K := K) (je_v 6 fun _ => pv 6) TL.c TL.bl lk_bl) (ja_cons (je_v 13 fun _ => pv 13) (ja_cons (je_v 14 fun _ => pv 14) (ja_cons (je_v 7 fun _ => pv 7) ja_nil)))) ?_) (le_line (Nat.le_trans hpl2 (by decide))) (fun _ => scAn.nd)) ?_) oL_pL (fun ow σ P H S => ?_) scAn.nd
  · obtain ⟨b, hb, hj⟩ := mem_plc.mp hq
    refine ⟨by show other.length ≤ 100; omega, (List.getElem?_eq_some_iff.mp hb).1, fun b' hb' => ?_⟩
    have hb' : other[q.1]? = some b' := hb'
    rw [hb] at hb'
    cases hb'
    exact spots_ok hj
  · rw [List.filter_eq_self.mpr (fun _ _ => rfl)]
  have hfn : preFN (anF n own (ii, jj) other) n := hfn
  have etf : anF n own (ii, jj) other = (((plc most other).map fun q => hv most other q.1 q.2) ++ [hv most own ii jj]).flatMap fun pr => [pr.1, pr.2] := by
    unfold anF
    rw [hm]
  generalize hfs : anF n own (ii, jj) other = fs at hfn etf
  refine w_asg 11 (R := pD w (dcE (ded fs) fun f => pI (numF n (ded fs) f))) S (je_call (fun _ => cN _ hr) (fs, n) (ja_cons (JE.is (JN.jeL (JM.jn (jm_lc2 (α := Ln × Ln) (γ := Ln) (r := pHv K) (ys := ((plc most other).map fun q => hv most other q.1 q.2) ++ [hv most own ii jj]) (js := [15]) (js1 := [16]) [("pair", 15), ("form", 16)] [.pr (pLn K cs.Line x), .pr (pLn K cs.Line y), .pr (pI ((n + 1 : Nat) : Int)), .pr (pI sd), .pr (pPl K l ii jj), .pr (pLn K cs.Line own), .pr (pLn K cs.Line other), .pr (pI most), .pr (pHv K (hv most own ii jj)), .pr (pL ((plc most other).map (pP2 K))), .pr (pL ((plc most other).map fun q => pHv K (hv most other q.1 q.2))), .un, .un, .un, .un, .un, .un, .un] (fun pr => [pr.1, pr.2]) (pBs K) (pBs K)
      (fun pr => [.pr (pLn K cs.Line x), .pr (pLn K cs.Line y), .pr (pI ((n + 1 : Nat) : Int)), .pr (pI sd), .pr (pPl K l ii jj), .pr (pLn K cs.Line own), .pr (pLn K cs.Line other), .pr (pI most), .pr (pHv K (hv most own ii jj)), .pr (pL ((plc most other).map (pP2 K))), .pr (pL ((plc most other).map fun q => pHv K (hv most other q.1 q.2))), .un, .un, .un, .un, .pr (pHv K pr), .un, .un])
      (fun pr u => [.pr (pLn K cs.Line x), .pr (pLn K cs.Line y), .pr (pI ((n + 1 : Nat) : Int)), .pr (pI sd), .pr (pPl K l ii jj), .pr (pLn K cs.Line own), .pr (pLn K cs.Line other), .pr (pI most), .pr (pHv K (hv most own ii jj)), .pr (pL ((plc most other).map (pP2 K))), .pr (pL ((plc most other).map fun q => pHv K (hv most other q.1 q.2))), .un, .un, .un, .un, .un, .pr (pBs K u), .un])
      (fun pr ss => ss.set 15 (.pr (pHv K pr))) (fun _ u ss => ss.set 16 (.pr (pBs K u)))
      (JI.is (ji_list (K := K) (JF.je (jf_cat (je_v 10 fun _ => pv 10) (JF.je (jf_lst (ja_cons (je_v 8 fun _ => pv 8) ja_nil))) (le_line (by rw [List.length_map]; simp; omega))))) (by rw [List.map_append, List.map_map]; rfl)) (fun _ => blkOk_by (N := nAn) (sc := defScope sAn) (by decide +kernel)) (Wk.refl _) rfl (by simp) (by simp)
      (fun y => jg_name 15 fun _ => pg_name scAn.nd rfl (by first | exact .inl rfl | exact .inr rfl)) (fun _ => rfl) (fun _ => rfl) (fun _ => by simp)
      (fun y _ => ji_tup (K := K) (je_v 15 fun _ => pv 15)) (fun _ u => jg_name 16 fun _ => pg_name scAn.nd rfl (by first | exact .inl rfl | exact .inr rfl)) (fun _ _ => rfl)
      (fun _ _ u _ => je_v 16 fun _ => pv 16) (by rw [← etf]; exact le_line hfn.2.1) (fun _ => scAn.nd)))) (by rw [← etf])) (ja_cons (JE.is (je_sub (je_v 2 fun _ => pv 2) je_i) e0) ja_nil)) hfn) (fun ow σ P H S => ?_) scAn.nd
  have hin : ∀ z ∈ ((plc most other).map fun q => hv most other q.1 q.2) ++ [hv most own ii jj], z.1 ∈ ded fs ∧ z.2 ∈ ded fs := fun z hz => by
    rw [mem_ded, mem_ded, etf]
    exact ⟨List.mem_flatMap.mpr ⟨z, hz, by simp⟩, List.mem_flatMap.mpr ⟨z, hz, by simp⟩⟩
  have hinw := hin (hv most own ii jj) (by simp)
  have hinq : ∀ q ∈ plc most other, (hv most other q.1 q.2).1 ∈ ded fs ∧ (hv most other q.1 q.2).2 ∈ ded fs := fun q hq => hin _ (List.mem_append_left _ (List.mem_map_of_mem (f := fun q => hv most other q.1 q.2) hq))
  refine w_asgMP 12 (R := pL ((ansL n own (ii, jj) other).map (pP2 K))) S (JM.is (jm_lc1 (α := NP × (Ln × Ln)) (ys := (plc most other).zip ((plc most other).map fun q => hv most other q.1 q.2)) [("at", 17), ("pair", 15)] [.pr (pLn K cs.Line x), .pr (pLn K cs.Line y), .pr (pI ((n + 1 : Nat) : Int)), .pr (pI sd), .pr (pPl K l ii jj), .pr (pLn K cs.Line own), .pr (pLn K cs.Line other), .pr (pI most), .pr (pHv K (hv most own ii jj)), .pr (pL ((plc most other).map (pP2 K))), .pr (pL ((plc most other).map fun q => pHv K (hv most other q.1 q.2))), .pr (pD w (dcE (ded fs) fun f => pI (numF n (ded fs) f))), .un, .un, .un, .un, .un, .un] (fun z => PyData.eqv (.tuple [.int (numF n (ded fs) z.2.1 : Nat), .int (numF n (ded fs) z.2.2 : Nat)]) (.tuple [.int (numF n (ded fs) (hv most own ii jj).1 : Nat), .int (numF n (ded fs) (hv most own ii jj).2 : Nat)])) (fun z => pP2 K z.1)
    (ji_zip (K := K) (xs := plc most other) (ys := (plc most other).map fun q => hv most other q.1 q.2) (r := pP2 K) (r2 := pHv K) (je_v 9 fun _ => pv 9) (JE.is (je_v 10 fun _ => pv 10) (by rw [List.map_map]; rfl)) (fun _ => T.bt.zip)) (fun _ => blkOk_by (N := nAn) (sc := defScope sAn) (by decide +kernel)) (Wk.refl _) rfl
    (fun y => jg_tup2 (K := K) (jg_name 17 fun _ => pg_name scAn.nd rfl (by first | exact .inl rfl | exact .inr rfl)) (jg_name 15 fun _ => pg_name scAn.nd rfl (by first | exact .inl rfl | exact .inr rfl))) (by simp) (by simp)
    (fun z hz => jts_one (jt_eqD (K := K) (je_call (Cal.blk fun _ => cO _ hr) (z.2, ded fs, numF n (ded fs)) (ja_cons (je_v 15 fun _ => pv 15) (ja_cons (je_v 11 fun _ => pv 11) ja_nil)) ?_) (je_call (Cal.blk fun _ => cO _ hr) (hv most own ii jj, ded fs, numF n (ded fs)) (ja_cons (je_v 8 fun _ => pv 8) (ja_cons (je_v 11 fun _ => pv 11) ja_nil)) hinw)
      (pd_t (pdl_cons pd_i (pdl_cons pd_i pdl_nil))) (pd_t (pdl_cons pd_i (pdl_cons pd_i pdl_nil))) (sh2 _ _) (sh2 _ _) (fun _ => room64 hr) (nomark _)))
    (fun z hz _ => je_v 17 fun _ => pv 17) (le_line (by rw [List.length_zip, List.length_map]; omega)) (fun _ => scAn.nd)) ?_) oL_pL (fun ow σ P H S => ?_) scAn.nd
  · have h := (List.of_mem_zip (show (z.1, z.2) ∈ _ from hz)).2
    obtain ⟨q, hq, e⟩ := List.mem_map.mp h
    rw [← e]
    exact hinq q hq
  · have hpos : ∀ g ∈ ded fs, Pos g := fun g hg => by
      rw [mem_ded, etf] at hg
      obtain ⟨z, hz, hgz⟩ := List.mem_flatMap.mp hg
      have hz2 : Pos z.1 ∧ Pos z.2 := by
        rcases List.mem_append.mp hz with h | h
        · obtain ⟨q, _, e⟩ := List.mem_map.mp h
          rw [← e, ← hm]
          exact pos_hv pt _ _
        · have h : z = hv most own ii jj := by simpa using h
          rw [h, ← hm]
          exact pos_hv po _ _
      have : g = z.1 ∨ g = z.2 := by simpa using hgz
      rcases this with e | e
      · rw [e]; exact hz2.1
      · rw [e]; exact hz2.2
    have el := E_form n (pos_lf po ii jj)
    have er := E_form n (pos_rg po ii jj)
    rw [hm] at el er
    have key : ∀ q ∈ plc most other, PyData.eqv (.tuple [.int (numF n (ded fs) (hv most other q.1 q.2).1 : Nat), .int (numF n (ded fs) (hv most other q.1 q.2).2 : Nat)]) (.tuple [.int (numF n (ded fs) (hv most own ii jj).1 : Nat), .int (numF n (ded fs) (hv most own ii jj).2 : Nat)]) = e2B n own (ii, jj) other q := fun q hq => by
      have k1 := numF_ok n (ded fs) hpos _ (hinq q hq).1 _ hinw.1
      have k2 := numF_ok n (ded fs) hpos _ (hinq q hq).2 _ hinw.2
      have fl := E_form n (pos_lf pt q.1 q.2)
      have fr := E_form n (pos_rg pt q.1 q.2)
      rw [hm] at fl fr
      rw [Bool.eq_iff_iff, e2B_iff]
      simp only [PyData.eqv, PyData.eqvAll, Bool.and_true, Bool.and_eq_true, beq_iff_eq]
      constructor
      · rintro ⟨h1, h2⟩
        have h1 := k1.mp (by omega)
        have h2 := k2.mp (by omega)
        exact ⟨el.trans ((fl.trans h1).symm), er.trans ((fr.trans h2).symm)⟩
      · rintro ⟨h1, h2⟩
        have h1 := k1.mpr (fl.symm.trans (h1.symm.trans el))
        have h2 := k2.mpr (fr.symm.trans (h2.symm.trans er))
        exact ⟨by omega, by omega⟩
    have go : ∀ L : List NP, (∀ q ∈ L, q ∈ plc most other) → ((L.zip (L.map fun q => hv most other q.1 q.2)).filter fun z => PyData.eqv (.tuple [.int (numF n (ded fs) z.2.1 : Nat), .int (numF n (ded fs) z.2.2 : Nat)]) (.tuple [.int (numF n (ded fs) (hv most own ii jj).1 : Nat), .int (numF n (ded fs) (hv most own ii jj).2 : Nat)])).map (fun z => pP2 K z.1) = (L.filter fun q => e2B n own (ii, jj) other q).map (pP2 K) := by
      intro L
      induction L with
      | nil => intro _; rfl
      | cons q L ih =>
        intro h
        have h1 := ih fun z hz => h z (List.mem_cons_of_mem _ hz)
        have h2 := key q (h q (by simp))
        rw [List.map_cons, List.zip_cons_cons, List.filter_cons, List.filter_cons]
        dsimp only
        rw [h2]
        split
        · rw [List.map_cons, List.map_cons, h1]
        · exact h1
    have g := go (plc most other) fun q hq => hq
    have e : ansL n own (ii, jj) other = (plc most other).filter fun q => e2B n own (ii, jj) other q := by unfold ansL; rw [hm]
    rw [e, ← g]
  obtain ⟨q, hq⟩ := ansL_ne hE hpl
  have hq : (ansL n own (ii, jj) other)[0]? = some q := hq
  refine w_ret S (je_ixL (K := K) (R := pP2 K q) (j := 0) (je_v 12 fun _ => pv 12) je_i (fun _ _ => rfl) (ixN_nat rfl ?_) (by rw [List.getElem?_map, hq]; rfl)) fun v P H S r => kQ hnone v P H S.gr ?_
  · rw [List.length_map]
    exact (List.getElem?_eq_some_iff.mp hq).1
  · have e : ans n own (ii, jj) other = q := by unfold ans; rw [hq]; rfl
    show (pP2 K (ans n own (ii, jj) other)).p P v
    rw [e]
    exact r
end
end K74
/-! Defs that write data out (repr): they are promised only where nothing is being written out. -/
namespace Ly
open PySem PySem.Spec PyProof.Rows L2
theorem deeper_guards (A : Around) (env : Env) (h : A.guards = some []) : (A.deeper env).guards = some [] := by
  first
    | exact h
    | simpa [Around.deeper] using h
/-- a promise that holds where no writing out is under way -/
structure FnG (P : Program) (w : World) (K : PySem.W.Frag) (mg : Str → Option Value) (base : Heap) (k : Nat) (f : Addr) (fd : FuncData) (ps : List Str) (sp : Sp) : Prop where
  len : ∀ vs H Q E, sp vs H Q E → vs.length = ps.length
  run : ∀ (A : Around) (outer : List Env) (s : Shared) (H : Hp) (args : Args) (us : List Value) (vs : List V) (Q : VK) (E : XK), A.guards = some [] → Room k A → Env0 P w K mg base A outer s H → BindsTo s fd args (ps.zip us) → Vals vs us → sp vs H Q E →
    codeAny (model P w) A (.call (.ref f) args) (CR (L2.CX P w) outer P w H s Q E) s
section
variable {P : Program} {w : World} {K : PySem.W.Frag} {mg : Str → Option Value} {base : Heap} {x qual : Str} {st : Stmt} {f : Addr} {fd : FuncData} {N ps : List Str} {k : Nat} {sp : Sp}
theorem FnG.of (F : Fun K x qual st f fd) (S : FnScope N ps (defScope st)) (len : ∀ vs H Q E, sp vs H Q E → vs.length = ps.length)
    (hbody : ∀ (cdv : Value) (A : Around) (outer : List Env) (s : Shared) (H : Hp) (vs : List V) (Q : VK) (E : XK), Room k (A.deeper (envOfC qual (defScope st) s.heap.objs.size f cdv)) → (A.deeper (envOfC qual (defScope st) s.heap.objs.size f cdv)).guards = some [] → sp vs H Q E →
      ∃ t, PSs (cxOf (L2.CX P w) P w K mg base N qual (defScope st) f cdv A outer s H E) (defBody st) t ∧ t { nx := fun _ H' => Q .non H', rt := Q } (L2.start N vs) H) : FnG P w K mg base (k + 1) f fd ps sp := by
  obtain ⟨oc, od, kV, doc, pm, an, cdv, ct, osl, rfl, lk, hcd⟩ := F.ex
  refine ⟨len, fun A outer s H args us vs Q E hgd hr e0 hb r hsp => ?_⟩
  have hl := len _ _ _ _ hsp
  have KX : K.In s.heap := e0.mod.kin.keeps fun b o e => (e0.bs b o e).1
  have lim : s.heap.NoLimit := e0.mod.nolimit.keeps fun b o e => (e0.bs b o e).1
  refine codeAny_call_function hr.depth (KX _ _ lk) rfl S.co S.gen rfl (PySem.W.codeRec_of KX hcd) (hb _ _ _ _ ?_)
  refine wpAny_newFunctionEnv_cells S.kind (fun y hy => ?_) fun env he s1 z => ?_
  · rcases S.par y.1 (List.of_mem_zip (show (y.1, y.2) ∈ ps.zip us from hy)).1 with q | q
    · exact .inl q
    · exact .inr ⟨q, PySem.W.cellsFrom_some _ _ _ (.inl q)⟩
  subst he
  refine ⟨lim.keeps z.toInCall.keep, codeAny_func ?_⟩
  obtain ⟨t, ht, hq⟩ := hbody cdv A outer s H vs Q E (hr.deeper _) (deeper_guards A _ hgd) hsp
  have I : Inv (cxOf (L2.CX P w) P w K mg base N qual (defScope st) f cdv A outer s H E) [] (L2.start N vs) H s1 := inv_start S hr.hd e0 hl r z
  refine wpAny_mono (ht.run [] s1 (L2.start N vs) H _ I hq) (fun fl s' hs => ?_) fun e s' hs => hs
  cases fl with
  | ret u =>
    obtain ⟨v, σ', H', J, rv, q⟩ := hs
    exact ⟨v, H', J.os, J.bare, J.base, J.hok, rv, q⟩
  | next =>
    obtain ⟨σ', H', J, q⟩ := hs
    exact ⟨.non, H', J.os, J.bare, J.base, J.hok, rfl, q⟩
  | brk =>
    obtain ⟨_, _, _, q⟩ := hs
    exact False.elim q
  | cont =>
    obtain ⟨_, _, _, q⟩ := hs
    exact False.elim q
end
/-- repr(x) of data -/
def rReprD (K : PySem.W.Frag) : List V → Hp → VK → Prop := fun xs H Q => ∃ x d, xs = [x] ∧ Dp K H x d ∧ SeqAt.shaped d = true ∧ d.depth ≤ 60 ∧ d.showable = true ∧ d.shown.length ≤ sizeLine ∧ Q (.str d.shown) H
theorem call_reprD {X : Cx} (hg : X.A.guards = some []) (hu : X.A.units + 64 < cLine) : CallR X (.builtin "repr") (rReprD X.K) := by
  intro pins s σ H xs us Q I r h
  obtain ⟨x, d, rfl, hd, hs, hdep, hsh, hz, q⟩ := h
  obtain ⟨u, rfl, ru⟩ := vals1 r
  obtain ⟨as, rr⟩ := Dp.reads I d x u hd ru
  have hnd := PyData.hasDict_of_canLay d (SeqAt.canLay_of_shaped hs)
  have fin : ∀ (a : Addr), u = .ref a → wpAny (model X.prog X.w) X.A (call (.builtin "repr") [u]) (L2.EP X pins σ Q) X.xe s := fun a e => by
    subst e
    exact repr_of_reads' rr hsh (PyData.noDict_hsm hnd) hg (by omega) (fun b o e => e) (fun h' u' tk kk => ⟨.str d.shown, H, I.kept (h' := h') (t' := tk) kk, ⟨_, rfl⟩, q⟩) hz
  cases hd with
  | non =>
    obtain rfl : u = Value.none := ru
    rw [PyData.shown_none] at q
    exact PySem.P.repr_of_none ⟨.str _, H, I.tok _, ⟨_, rfl⟩, q⟩
  | bl b =>
    obtain rfl : u = Value.bool b := ru
    rw [PyData.shown_bool] at q
    exact PySem.P.repr_of_bool ⟨.str _, H, I.tok _, ⟨_, rfl⟩, q⟩
  | int i =>
    obtain ⟨t, rfl⟩ := ru
    rw [PyData.shown_int] at q
    have hi : i.natAbs.log2 < 1920 := by simpa [PyData.showable] using hsh
    exact PySem.P.repr_of_int hi ⟨.str _, H, I.tok _, ⟨_, rfl⟩, q⟩
  | str y =>
    obtain ⟨t, rfl⟩ := ru
    rw [PyData.shown_str] at q hz
    exact PySem.P.repr_of_str ⟨.str _, H, I.tok _, ⟨_, rfl⟩, q⟩ hz
  | lst _ _ => exact fin _ ru
  | tup _ _ => exact fin _ ru
section
variable {ι : Type} {F : ι → Cx} {K : PySem.W.Frag} {ss ss1 : List Sl} {R : Pr} {Rs : List Pr} {x : Str} {sp : Sp} {p pos : Pos} {e : Expr} {es : List Expr} {d : PyData}
/-- repr(e), e a datum -/
theorem je_repr (ha : JE F e ss R ss1) (hd : PD K R d) (hs : SeqAt.shaped d = true) (hdep : d.depth ≤ 60) (hsh : d.showable = true) (hz : d.shown.length ≤ sizeLine) (hgd : ∀ i, (F i).A.guards = some []) (hu : ∀ i, (F i).A.units + 64 < cLine) (hm : ∀ i, (F i).mg "repr" = none) (hg : ∀ i, Gl (F i) "repr" := by intro _; rfl)
    (he : ∀ i, starEach [e] (F i).env = (false, eval e (F i).env) :: starEach [] (F i).env := by intro _; rfl) (hpl : ∀ i, (backTo pos (starEach [] (F i).env)).any (·.1) = false := by intro _; rfl) (hK : ∀ i, (F i).K = K := by intro _; rfl) : JE F (.Call (.Name "repr" p) [e] [] pos) ss (pS d.shown) ss1 :=
  je_cb (r := rReprD K) (fun i => hK i ▸ call_reprD (hgd i) (hu i)) (fun P H vs Q l r k => by
    obtain ⟨v, rfl, r1⟩ := pl1 r
    exact ⟨v, d, rfl, hd P H v l r1, hs, hdep, hsh, hz, k _ P H (Gr.refl l) rfl⟩) (ja_cons ha ja_nil he) hm (by decide +kernel) hg (by decide) (by decide) he hpl
/-- a callee of that kind -/
structure CalG (P : Program) (w : World) (K : PySem.W.Frag) (mg : Str → Option Value) (base : Heap) (A : Around) (x : Str) (sp : Sp) : Prop where
  gd : A.guards = some []
  ex : ∃ (k : Nat) (f : Addr) (fd : FuncData) (ps : List Str), FnG P w K mg base k f fd ps sp ∧ Room k A ∧ mg x = some (.ref f) ∧ PySem.W.keepIn K (.ref f) = true ∧ Binds K fd ps []
abbrev CalGX (X : Cx) (x : Str) (sp : Sp) : Prop := CalG X.prog X.w X.K X.mg X.base X.A x sp
end
section
variable {X : Cx} {W : WX} {x : Str} {k : Nat} {f : Addr} {fd : FuncData} {ps : List Str} {sp : Sp} {t : TA} {p pos : Pos} {e : Expr} {es : List Expr}
theorem pe_callWG (c : CalGX X x sp) (tk : Takes X W) (hg : Gl X x)
    (ha : PA X (e :: es) t) (hdb : (x == ("__debug__" : Str)) = false := by decide) (he : starEach (e :: es) X.env = (false, eval e X.env) :: starEach es X.env := by rfl) (hpl : (backTo pos (starEach es X.env)).any (·.1) = false := by rfl) :
    PE X (.Call (.Name x p) (e :: es) [] pos) (fun σ H Q => t σ H fun vs H1 => sp vs H1 Q (fun cls d H' => W cls d σ H')) := by
  obtain ⟨k, f, fd, ps, F, hr, hm, hk, hb⟩ := c.ex
  refine ⟨fun pins s σ H Q I h => ?_⟩
  refine wpAny_Call_Name_kw (ld_glob I hg hm ?_ hdb)
  refine PySem.W.callWith_K (h₀ := X.base) I.ok.mod.kin hk (thn (ha.run pos pins s σ H _ I h) fun us s1 ⟨vs, H1, I1, r, q⟩ => ⟨I1.kIn, ?_⟩) he hpl
  have hl : us.length = ps.length := by rw [← r.length]; exact F.len _ _ _ _ q
  have hb' := hb s1 us I1.kIn (by rw [List.append_nil]; exact hl)
  rw [List.append_nil] at hb'
  refine wpAny_call (codeAny_mono (F.run X.A X.stack s1 H1 ⟨us, []⟩ us vs Q _ c.gd hr I1.env0 hb' r q) fun r s' hq => ?_)
  cases r with
  | error e => exact tk e s' (XE.of_call I1 (fun cls d H' h => h) hq)
  | ok fl =>
    cases fl with
    | ret u => exact I1.after hq
    | next => exact False.elim hq
    | brk => exact False.elim hq
    | cont => exact False.elim hq
end
section
variable {ι : Type} {F : ι → Cx} {K : PySem.W.Frag} {ss ss1 : List Sl} {R : Pr} {Rs : List Pr} {x : Str} {p pos : Pos} {e : Expr} {es : List Expr}
/-- f(..), f such a def, where it does not raise -/
theorem je_callG {α : Type} {ar : α → List Pr} {pre : α → Prop} {res : α → Pr} {er : α → Option Er} (c : ∀ i, CalGX (F i) x (spX ar pre res er)) (a : α) (ha : JA F (e :: es) ss Rs ss1) (hp : pre a) (hn : er a = none) (hA : ar a = Rs := by rfl) (hR : res a = R := by rfl)
    (hg : ∀ i, Gl (F i) x := by intro _; rfl) (hdb : (x == ("__debug__" : Str)) = false := by decide) (he : ∀ i, starEach (e :: es) (F i).env = (false, eval e (F i).env) :: starEach es (F i).env := by intro _; rfl)
    (hpl : ∀ i, (backTo pos (starEach es (F i).env)).any (·.1) = false := by intro _; rfl) : JE F (.Call (.Name x p) (e :: es) [] pos) ss R ss1 := fun xs P0 H0 ow σ P H S Q k =>
  ⟨fun σ H Q => XA F (e :: es) σ H fun vs H1 => spX ar pre res er vs H1 Q (fun _ _ _ => False), fun i => pe_callWG (c i) takes0 (hg i) (xa i) hdb (he i) (hpl i), ha _ _ _ _ _ _ _ S _ fun vs P2 H2 S2 e2 r2 =>
    ⟨P2, a, S2.ld, hp, hA ▸ r2, fun _ v P3 H3 g r => k v P3 H3 (S2.grow g) (e2.trans g.p) (hR ▸ r), fun e he => by rw [hn] at he; cases he⟩⟩
end
section
variable {P : Program} {w : World} {K : PySem.W.Frag} {mg : Str → Option Value} {base : Heap} {x qual : Str} {st : Stmt} {f : Addr} {fd : FuncData} {N ps : List Str}
theorem fnXG {α : Type} {ar : α → List Pr} {pre : α → Prop} {res : α → Pr} {er : α → Option Er} (k : Nat) (F : Fun K x qual st f fd) (S : FnScope N ps (defScope st)) (hl : ∀ a, (ar a).length = ps.length)
    (hb : ∀ (X : Cx) (cdv : Value) (A : Around) (outer : List Env) (s : Shared) (H0 : Hp) (Q : VK) (E : XK), X = cxOf (L2.CX P w) P w K mg base N qual (defScope st) f cdv A outer s H0 E → Room k X.A → X.A.guards = some [] → Takes X (fun cls d _ H => E cls d H) → ∀ (P0 : Hp) (a : α) (σ : L2.St), pre a → S8 [] P0 H0 [] σ P0 H0 (ini (ar a) (N.length - ps.length)) →
      (er a = none → ∀ v P2 H2, Gr P0 H0 P2 H2 → (res a).p P2 v → Q v H2) → (∀ e, er a = some e → ∀ d y P2 H2, Gr P0 H0 P2 H2 → P2 d = none → H2 d = some (.xd [(e.f, y)]) → e.R.p P2 y → E (.ref e.C) (some d) H2) →
      XS (cxOf (L2.CX P w) P w K mg base N qual (defScope st) f cdv A outer s H0 E) (defBody st) { nx := fun _ H' => Q .non H', rt := Q } σ H0) :
    FnG P w K mg base (k + 1) f fd ps (spX ar pre res er) := by
  refine FnG.of F S (fun vs H Q E h => ?_) (fun cdv A outer s H vs Q E hr hgd h => ?_)
  · obtain ⟨P0, a, _, _, r, _⟩ := h
    rw [r.len, hl]
  · obtain ⟨P0, a, ld, hp, r, q, qx⟩ := h
    have e : vs.length = ps.length := by rw [r.len, hl]
    have S0 : S8 [] P0 H [] (L2.start N vs) P0 H (ini (ar a) (N.length - ps.length)) := by
      refine ⟨Same.refl _, ld, fun _ _ _ e => e, fun _ _ e => e, fun a ha => absurd ha (by simp), fun a ha => absurd ha (by simp), ?_⟩
      unfold L2.start
      rw [e]
      exact ini_all _ r
    exact ⟨_, Ly.xs, hb _ cdv A outer s H Q E rfl hr hgd (takes_of rfl rfl rfl rfl) P0 a _ hp S0 q qx⟩
end
end Ly
/-! _law_same -/
namespace K74
open PySem PySem.Spec PyProof.Rows L2 Ly M74
/-- a datum that may be written out -/
structure Wr (d : PyData) : Prop where
  sh : SeqAt.shaped d = true
  dp : d.depth ≤ 60
  sw : d.showable = true
  ln : d.shown.length ≤ sizeLine
structure Two where
  R : Pr
  S : Pr
  d : PyData
  e : PyData
structure preSame (K : PySem.W.Frag) (a : Two) : Prop where
  r : PD K a.R a.d
  s : PD K a.S a.e
  d : Wr a.d
  e : Wr a.e
def sameD (d e : PyData) : Bool := PyData.eqv d e && decide (d.shown = e.shown)
section
variable {w : World} {K : PySem.W.Frag} {mg : Str → Option Value} {base : Heap}
abbrev sSame : Stmt := top 34
abbrev spSame (K : PySem.W.Frag) : Sp := spX (fun a : Two => [a.R, a.S]) (preSame K) (fun a => pB (sameD a.d a.e)) (fun _ => none)
theorem scSame : FnScope ["told", "due"] ["told", "due"] (defScope sSame) := ⟨rfl, rfl, rfl, by decide +kernel, rfl, by decide +kernel, by decide +kernel⟩
theorem dec_str (a b : Str) : decide (V.str a = V.str b) = decide (a = b) := decide_eq_decide.mpr ⟨fun h => by injection h, fun h => by rw [h]⟩
theorem ok_same {f : Addr} {fd : FuncData} (F : FnP K "_law_same" sSame f fd) (T : Cst K mg) (hrep : mg "repr" = none) : FnG PP w K mg base 1 f fd ["told", "due"] (spSame K) := by
  refine fnXG 0 F scSame (fun _ => rfl) fun X cdv A outer s H0 Q E hX hr hgd tk P0 a σ pre S kQ kE => ?_
  subst hX
  obtain ⟨h1, h2, h3, h4⟩ := pre
  refine w_ret S (je_and (q := PyData.eqv a.d a.e) (q' := decide (a.d.shown = a.e.shown)) (je_eqD (K := K) (je_v 0 fun _ => pv 0) (je_v 1 fun _ => pv 1) h1 h2 h3.sh h4.sh (fun _ => room64 hr) (nomark _)) fun _ => je_one (JE.is (je_cmp (fun _ => op_eq) (rv_eq rfl)
    (je_repr (K := K) (je_v 0 fun _ => pv 0) h1 h3.sh h3.dp h3.sw h3.ln (fun _ => hgd) (fun _ => room64 hr) (fun _ => hrep)) (je_repr (K := K) (je_v 1 fun _ => pv 1) h2 h4.sh h4.dp h4.sw h4.ln (fun _ => hgd) (fun _ => room64 hr) (fun _ => hrep)) (nomark _)) (congrArg pB (dec_str _ _)))) fun v P H S r => kQ rfl v P H S.gr r
end
end K74
/-! _law_part_of -/
namespace K74
open PySem PySem.Spec PyProof.Rows L2 Ly M74
/-- blocks as a list or a tuple -/
def pBL (K : PySem.W.Frag) (t : Bool) (bs : Ln) : Pr := if t then pL (bs.map pK) else pBs K bs
/-- what is left of the block -/
def rV (b : Blk) (j : Nat) (ah : Bool) : V := match b, ah with
  | .dn, false => .str "down"
  | .up, true => .str "up"
  | .n k, true => .int ((k : Int) - 1 - j)
  | _, _ => .int j
def mB (b : Blk) (j : Nat) (ah : Bool) : Ln := if ah then br b j else bl b j
def partOf (bs : Ln) (i j : Nat) (ah : Bool) : Ln := if ah then rg bs i j else lf bs i j
theorem fin_map (k : Nat) : (M74.fin k).map pK = if k = 0 then [] else [pV (.int k)] := by
  unfold M74.fin
  split <;> rfl
theorem mB_map {b : Blk} {j : Nat} {ah : Bool} (h : okJ b j) : (mB b j ah).map pK = if rV b j ah = .int 0 then [] else [pV (rV b j ah)] := by
  have key : ∀ k : Nat, (M74.fin k).map pK = if V.int (k : Int) = .int 0 then [] else [pV (.int (k : Int))] := fun k => by
    rw [fin_map]
    by_cases hk : k = 0
    · subst hk; rfl
    · rw [if_neg hk, if_neg (by intro z; injection z with z; omega)]
  cases b with
  | n k =>
    cases ah with
    | true =>
      have hj : j < k := h
      have := key (k - 1 - j)
      rw [show ((k - 1 - j : Nat) : Int) = (k : Int) - 1 - j by omega] at this
      exact this
    | false => exact key j
  | up =>
    cases ah with
    | true => rfl
    | false => exact key j
  | dn =>
    cases ah with
    | true => exact key j
    | false => rfl
section
variable {Pg : Program} {w : World} {K : PySem.W.Frag} {mg : Str → Option Value} {base : Heap}
abbrev sPO : Stmt := top 35
abbrev nPO : List Str := ["blocks", "place", "ahead", "block", "rest", "middle"]
theorem scPO : FnScope nPO ["blocks", "place", "ahead"] (defScope sPO) := ⟨rfl, rfl, rfl, by decide +kernel, rfl, by decide +kernel, by decide +kernel⟩
structure POx where
  t : Bool
  bs : Ln
  i : Nat
  j : Nat
  ah : Bool
abbrev spPO (K : PySem.W.Frag) : Sp := spF (fun a : POx => [pBL K a.t a.bs, pP2 K (a.i, a.j), pB a.ah]) (fun a => a.bs.length ≤ 1000 ∧ ∃ b, a.bs[a.i]? = some b ∧ okJ b a.j) (fun a => pL ((partOf a.bs a.i a.j a.ah).map pK))
theorem ok_PO {f : Addr} {fd : FuncData} (F : FnP K "_law_part_of" sPO f fd) (T : Cst K mg) : FnOk Pg w K mg base CX0 1 f fd ["blocks", "place", "ahead"] (spPO K) := by
  refine fnF 0 F scPO (fun _ => rfl) fun cdv A outer s H0 Q E hr P0 a σ pre S kQ => ?_
  obtain ⟨t, bs, i, j, ah⟩ := a
  obtain ⟨hl, b, hb, hj⟩ := pre
  dsimp only at hl hb hj S kQ
  have hi := (List.getElem?_eq_some_iff.mp hb).1
  have ix : ∀ (p1 p2 p3 p4 p5 : Pos) (k : Nat) (ss : List Sl), ss[0]? = some (.pr (pBL K t bs)) → ss[1]? = some (.pr (pP2 K (i, j))) → JE (C1 (cxOf CX0 Pg w K mg base nPO "_law_part_of" (defScope sPO) f cdv A outer s H0 E).nox) (.Subscript (.Name "blocks" p1) (.Subscript (.Name "place" p2) (.Constant (.int 0) k p3) p4) p5) ss (pK b) ss := fun p1 p2 p3 p4 p5 k ss h0 h1 => by
    cases t with
    | true => exact je_ixL (je_v 0 (fun _ => pv 0) h0) (je_ixT (K := K) (j := 0) (je_v 1 (fun _ => pv 1) h1) je_i (fun _ _ => rfl) rfl rfl) (fun _ _ => rfl) (bs_ix hb).1 (bs_ix hb).2
    | false => exact je_ixT (je_v 0 (fun _ => pv 0) h0) (je_ixT (K := K) (j := 0) (je_v 1 (fun _ => pv 1) h1) je_i (fun _ _ => rfl) rfl rfl) (fun _ _ => rfl) (bs_ix hb).1 (bs_ix hb).2
  refine w_asg 3 S (ix _ _ _ _ _ _ _ rfl rfl) (fun ow σ P H S => ?_) scPO.nd
  have p0 : ∀ (p2 p3 p4 : Pos) (k : Nat) (ss : List Sl), ss[1]? = some (.pr (pP2 K (i, j))) → JE (C1 (cxOf CX0 Pg w K mg base nPO "_law_part_of" (defScope sPO) f cdv A outer s H0 E).nox) (.Subscript (.Name "place" p2) (.Constant (.int 0) k p3) p4) ss (pI i) ss := fun p2 p3 p4 k ss h1 => je_ixT (K := K) (j := 0) (je_v 1 (fun _ => pv 1) h1) je_i (fun _ _ => rfl) rfl rfl
  have sl1 : ∀ (p1 p2 p3 p4 p5 p6 p7 p8 p9 p10 : Pos) (k k2 : Nat) (ss : List Sl), ss[0]? = some (.pr (pBL K t bs)) → ss[1]? = some (.pr (pP2 K (i, j))) → JE (C1 (cxOf CX0 Pg w K mg base nPO "_law_part_of" (defScope sPO) f cdv A outer s H0 E).nox) (.Call (.Name "list" p1) [.Subscript (.Name "blocks" p2) (.Slice (some (.BinOp (.Subscript (.Name "place" p3) (.Constant (.int 0) k p4) p5) .Add (.Constant (.int 1) k2 p6) p7)) none none p8) p9] [] p10) ss (pL ((bs.drop (i + 1)).map pK)) ss := fun p1 p2 p3 p4 p5 p6 p7 p8 p9 p10 k k2 ss h0 h1 => by
    have ec : ∀ R : List Pr → Pr, R (cutR (bs.map pK) (some ((i : Int) + 1)) none) = R ((bs.drop (i + 1)).map pK) := fun R => by rw [cutR_map, cutR_from1]
    cases t with
    | true => exact JE.is (JF.je (jf_listL (K := K) (JF.je (jf_slL (K := K) (je_v 0 (fun _ => pv 0) h0) (jo_e (je_add (p0 _ _ _ _ _ h1) je_i)) jo_no)) (fun _ => T.bt.list))) (ec _)
    | false => exact JE.is (JF.je (jf_listT (K := K) (je_slT (K := K) (je_v 0 (fun _ => pv 0) h0) (jo_e (je_add (p0 _ _ _ _ _ h1) je_i)) jo_no) (fun _ => T.bt.list))) (ec _)
  have sl2 : ∀ (p1 p2 p3 p4 p5 p8 p9 p10 : Pos) (k : Nat) (ss : List Sl), ss[0]? = some (.pr (pBL K t bs)) → ss[1]? = some (.pr (pP2 K (i, j))) → JE (C1 (cxOf CX0 Pg w K mg base nPO "_law_part_of" (defScope sPO) f cdv A outer s H0 E).nox) (.Call (.Name "list" p1) [.Subscript (.Name "blocks" p2) (.Slice none (some (.Subscript (.Name "place" p3) (.Constant (.int 0) k p4) p5)) none p8) p9] [] p10) ss (pL ((bs.take i).map pK)) ss := fun p1 p2 p3 p4 p5 p8 p9 p10 k ss h0 h1 => by
    have ec : ∀ R : List Pr → Pr, R (cutR (bs.map pK) none (some (i : Int))) = R ((bs.take i).map pK) := fun R => by rw [cutR_map, cutR_to]
    cases t with
    | true => exact JE.is (JF.je (jf_listL (K := K) (JF.je (jf_slL (K := K) (je_v 0 (fun _ => pv 0) h0) jo_no (jo_e (p0 _ _ _ _ _ h1)))) (fun _ => T.bt.list))) (ec _)
    | false => exact JE.is (JF.je (jf_listT (K := K) (je_slT (K := K) (je_v 0 (fun _ => pv 0) h0) jo_no (jo_e (p0 _ _ _ _ _ h1))) (fun _ => T.bt.list))) (ec _)
  have hm1 : (mB b j ah).length ≤ 1 := by unfold mB; cases ah <;> first | exact bl_len _ _ | exact br_len _ _
  have tail : ∀ (ow : List Addr) (σ : L2.St) (P1 H1 : Hp), S8 [] P0 H0 ow σ P1 H1 [.pr (pBL K t bs), .pr (pP2 K (i, j)), .pr (pB ah), .pr (pK b), .pr (pV (rV b j ah)), .un] →
      XS (cxOf CX0 Pg w K mg base nPO "_law_part_of" (defScope sPO) f cdv A outer s H0 E).nox ((defBody sPO).drop 3) { nx := fun _ H' => Q .non H', rt := Q } σ H1 := by
    intro ow σ P1 H1 S
    refine w_asg 5 (R := pL ((mB b j ah).map pK)) S (je_if (q := decide (rV b j ah = .int 0)) (jt_cmp (fun _ => op_eq) (rv_eq (by cases b <;> cases ah <;> rfl)) (je_v 4 fun _ => pv 4) je_i (nomark _)) (fun h => ?_) (fun h => ?_)) (fun ow σ P H S => ?_) scPO.nd
    · rw [mB_map hj, if_pos (by simpa using h)]
      exact JF.je (jf_lst ja_nil)
    · rw [mB_map hj, if_neg (by simpa using h)]
      exact JF.je (jf_lst (ja_cons (je_v 4 fun _ => pv 4) ja_nil))
    refine w_if S (q := ah) (jt_val (je_v 2 fun _ => pv 2)) (fun h P H S => ?_) (fun h P H S => w_nil ?_)
    · subst h
      refine w_ret S (JF.je (jf_cat (je_v 5 fun _ => pv 5) (sl1 _ _ _ _ _ _ _ _ _ _ _ _ _ rfl rfl) (le_line (by rw [List.length_map, List.length_map, List.length_drop]; omega)))) fun v P H S r => kQ v P H S.gr ?_
      show (pL ((rg bs i j).map pK)).p P v
      rw [rg_at hb, List.map_append]
      exact r
    · subst h
      refine w_ret S (JF.je (jf_cat (sl2 _ _ _ _ _ _ _ _ _ _ rfl rfl) (je_v 5 fun _ => pv 5) (le_line (by rw [List.length_map, List.length_map, List.length_take]; omega)))) fun v P H S r => kQ v P H S.gr ?_
      show (pL ((lf bs i j).map pK)).p P v
      rw [lf_at hb, List.map_append]
      exact r
  let v0 : V := if (decide (b = .dn) && !ah) = true then .str "down" else .int j
  refine w_asg 4 (R := pV v0) S (je_if (q := decide (b = .dn) && !ah) (jt_w (jw_and (JT.is (jt_cmp (fun _ => op_eq) (rv_eq (kb_scal _ _)) (je_v 3 fun _ => pv 3) je_s (nomark _)) (kb_dn b)) fun _ => jw_and1 (jt_not (jt_val (je_v 2 fun _ => pv 2))))) (fun h => ?_) (fun h => ?_)) (fun ow σ P H S => ?_) scPO.nd
  · show JE _ _ _ (pV (if (decide (b = .dn) && !ah) = true then .str "down" else .int j)) _
    rw [if_pos h]
    exact je_s
  · show JE _ _ _ (pV (if (decide (b = .dn) && !ah) = true then .str "down" else .int j)) _
    rw [if_neg (by rw [h]; decide)]
    exact je_ixT (K := K) (j := 1) (je_v 1 fun _ => pv 1) je_i (fun _ _ => rfl) rfl rfl
  refine w_if S (q := ah && !decide (b = .dn)) (jt_w (jw_and (jt_val (je_v 2 fun _ => pv 2)) fun _ => jw_and1 (JT.is (jt_cmp (fun _ => op_ne) (rv_ne (kb_scal _ _)) (je_v 3 fun _ => pv 3) je_s (nomark _)) (by rw [kb_dn])))) (fun h P H S => ?_) (fun h P H S => w_nil ?_)
  · have h : ah = true ∧ b ≠ .dn := by simpa using h
    obtain ⟨rfl, hnd⟩ := h
    refine w_asg 4 (R := pV (rV b j true)) S (je_if (q := decide (b = .up)) (JT.is (jt_cmp (fun _ => op_eq) (rv_eq (kb_scal _ _)) (je_v 3 fun _ => pv 3) je_s (nomark _)) (kb_up b)) (fun h => ?_) (fun h => ?_)) (fun ow σ P H S => w_nil (tail ow σ P H S)) scPO.nd
    · have h : b = .up := by simpa using h
      subst h
      exact je_s
    · have h : b ≠ .up := by simpa using h
      cases b with
      | up => exact absurd rfl h
      | dn => exact absurd rfl hnd
      | n k => exact je_sub (je_sub (je_v 3 fun _ => pv 3) je_i) (je_ixT (K := K) (j := 1) (je_v 1 fun _ => pv 1) je_i (fun _ _ => rfl) rfl rfl)
  · have e : v0 = rV b j ah := by
      show (if (decide (b = .dn) && !ah) = true then V.str "down" else .int j) = _
      cases b <;> cases ah <;> first | rfl | exact absurd h (by decide) | (simp at h)
    rw [e] at S
    exact tail _ _ _ _ S
end
end K74
/-! A slot's own list: pop, and asked whether it is empty. -/
namespace Ly
open PySem PySem.Spec PyProof.Rows L2
theorem PL.dl {P : Hp} : ∀ {Rs : List Pr} {vs : List V}, PL P Rs vs → PL P Rs.dropLast vs.dropLast
  | _, _, .nil => .nil
  | _, _, .cons r .nil => .nil
  | _, _, .cons r (.cons r2 t) => .cons r (PL.dl (.cons r2 t))
section
variable {X : Cx} {xs : List Addr} {P0 H0 : Hp} {ow : List Addr} {σ : L2.St} {P H : Hp} {ss : List Sl} {D : Ends} {rest : List Stmt} {pos : Pos}
/-- xs.pop(), xs a slot's own list -/
theorem w_pop (i : Nat) {o : Expr} {apos cpos : Pos} {Rs : List Pr} (S : S8 xs P0 H0 ow σ P H ss) (ho : ∀ j, PE (C1 X j) o (tVar i)) (hne : Rs ≠ []) (hs0 : ss[i]? = some (.ow (oL Rs)) := by rfl)
    (k : ∀ ow P H, S8 xs P0 H0 ow σ P H (ss.set i (.ow (oL Rs.dropLast))) → XS X rest D σ H)
    (hbase : attributeBase o "pop" X.env (eval o X.env) = eval o X.env := by rfl) (hsw : swapsWith (.Call (.Attribute o "pop" apos) [] [] cpos) none pos.line X.env = pure false := by rfl)
    (hline : (apos.endLine == cpos.line) = true := by rfl) : XS X (.Expr (.Call (.Attribute o "pop" apos) [] [] cpos) pos :: rest) D σ H := by
  refine w_cons ⟨_, ps_expr (pe_bm0 PySem.F.plainAttrs_list PySem.F.slot_list_pop PySem.F.type_list_pop (fun pins s σ H x xs v us Q I rx rv h => mt_pop pins s σ H x xs v us Q I rx rv h) (ho ()) hbase hline) hsw, ?_⟩
  obtain ⟨v, fp, ev, ⟨l, vs, rfl, rfl, hl, rs⟩, _, put⟩ := S.owned hs0
  refine ⟨_, ev, .inl ⟨rfl, vs, .inl (.inl hl)⟩, ?_⟩
  have hv : vs ≠ [] := fun z => hne (List.length_eq_zero_iff.mp (by rw [← rs.len, z]; rfl))
  obtain ⟨ow', _, S3⟩ := put (upd H l (.lst vs.dropLast)) (oL Rs.dropLast) (fun b hb => upd_ne (fun z => hb (by simp [z]))) (fun b hb => by
    have hb : b = l := by simpa using hb
    rw [hb, upd_same]
    exact fun z => by cases z) ⟨l, _, rfl, rfl, upd_same, rs.dl⟩
  exact ⟨l, vs, vs.getLast hv, rfl, rfl, hl, by rw [List.getElem?_eq_getElem (by have := List.length_pos_iff.mpr hv; omega), List.getLast_eq_getElem], k ow' P _ S3⟩
end
section
variable {ι : Type} {F : ι → Cx} {K : PySem.W.Frag} {ss : List Sl} {Rs : List Pr} {o : Expr} {pos p : Pos}
/-- xs != [], xs a slot's own list of data -/
theorem jt_neO (i : Nat) {ds : List PyData} (ho : ∀ j, PE (F j) o (tVar i)) (hd : PDL K Rs ds) (sd : SeqAt.shaped (.list ds) = true) (hu : ∀ i, (F i).A.units + 64 < cLine) (hs : ss[i]? = some (.ow (oL Rs)) := by rfl) (hm : behindInMarks .NotEq (.List [] p) = false := by rfl) (hK : ∀ i, (F i).K = K := by intro _; rfl) :
    JT F (.Compare o [.NotEq] [.List [] p] pos) ss (!Rs.isEmpty) ss := fun xs P0 H0 ow σ P H S Q k => by
  obtain ⟨l, vs, ev, hl, rs⟩ := S.ownL hs
  refine ⟨_, fun j => pt_cmpR (hK j ▸ op_neD (hu j)) (ho j) (pe_lst pa_nil) hm, _, ev, ⟨Nat.zero_le _, fun q hq => ?_⟩⟩
  have g := Gr.junk S.ld hq (.lst [])
  have hlq : l ≠ q := fun z => by rw [z, hq] at hl; cases hl
  refine ⟨.list ds, .list [], .lst (.inl (.inl ((upd_ne hlq).trans hl))) (hd P _ vs g.l rs), .lst (.inl (.inl upd_same)) .nil, sd, rfl, ?_⟩
  have e : (!PyData.eqv (.list ds) (.list [])) = !Rs.isEmpty := by
    have hlen : ds = [] ↔ Rs = [] := by
      have h1 := hd P H vs S.ld rs
      have h2 := rs.len
      constructor
      · rintro rfl
        cases h1
        exact List.length_eq_zero_iff.mp h2.symm
      · rintro rfl
        cases rs
        cases h1
        rfl
    cases ds with
    | nil => rw [hlen.mp rfl]; rfl
    | cons a ds =>
      cases Rs with
      | nil => exact absurd (hlen.mpr rfl) (by simp)
      | cons b Rs => rfl
  rw [e]
  exact ⟨_, rfl, k P _ (S.grow g) (Same.refl _)⟩
end
end Ly
/-! _law_normal -/
namespace K74
open PySem PySem.Spec PyProof.Rows L2 Ly M74
def bD : Blk → PyData
  | .n k => .int k
  | .up => .str "up"
  | .dn => .str "down"
theorem pd_k {K : PySem.W.Frag} (b : Blk) : PD K (pK b) (bD b) := by
  cases b with
  | n k => exact pd_i
  | up => exact pd_s
  | dn => exact pd_s
theorem lay_bs : ∀ f : Ln, PyData.canLayAll0 (f.map bD) = true
  | [] => by simp [PyData.canLayAll0]
  | b :: f => by
    have h : (bD b).canLay0 = true := by cases b <;> first | decide +kernel | simp [bD, PyData.canLay0]
    simp [PyData.canLayAll0, h, lay_bs f]
theorem dep_bs : ∀ f : Ln, PyData.depthAll (f.map bD) = 0
  | [] => by simp [PyData.depthAll]
  | b :: f => by
    have h : (bD b).depth = 0 := by cases b <;> simp [bD, PyData.depth]
    simp [PyData.depthAll, h, dep_bs f]
theorem sh_bs (f : Ln) : SeqAt.shaped (.list (f.map bD)) = true := by
  unfold SeqAt.shaped
  simp [PyData.canLay0, PyData.depth, lay_bs, dep_bs]
theorem sh_bst (f : Ln) : SeqAt.shaped (.tuple (f.map bD)) = true := by
  unfold SeqAt.shaped
  simp [PyData.canLay0, PyData.depth, lay_bs, dep_bs]
def lstep (most : Nat) (acc : Ln) (b : Blk) : Ln := match b with
  | .up => (match acc.getLast? with
    | some (.n _) => acc.dropLast
    | _ => acc) ++ [.up]
  | .dn => acc ++ [.dn]
  | .n k => match acc.getLast? with
    | some (.n m) => acc.dropLast ++ [.n (min (m + k) most)]
    | some .dn => acc
    | _ => acc ++ [.n (min k most)]
def nrm (r : Nat) (bs : Ln) : Ln := if r = 0 then [] else bs.foldl (lstep (2 ^ r - 1)) []
theorem lstep_len (most : Nat) (acc : Ln) (b : Blk) : (lstep most acc b).length ≤ acc.length + 1 := by
  unfold lstep
  split <;> (try split) <;> simp <;> omega
def isN (acc : Ln) : Bool := match acc.getLast? with
  | some (.n _) => true
  | _ => false
def tyL (acc : Ln) : Value := if isN acc then .type "int" else .type "str"
theorem last_ty {K : PySem.W.Frag} {H : Hp} (acc : Ln) : TyX K H (lastV acc) (tyL acc) := by
  unfold lastV tyL isN
  cases acc.getLast? with
  | none => exact .base (.str _)
  | some b =>
    cases b with
    | n k => exact .base (.int _)
    | up => exact .base (.str _)
    | dn => exact .base (.str _)
theorem kit_l {K : PySem.W.Frag} (acc : Ln) : PySem.W.kitOne K (tyL acc) (.type "str") = some (!isN acc) := by
  unfold tyL
  cases isN acc with
  | true => exact kit_ty (K := K) (a := "int") (b := "str") (r := false) (by decide +kernel)
  | false => exact kit_ty (K := K) (a := "str") (b := "str") (r := true) (by decide +kernel)
theorem lstep_app {most k : Nat} {acc : Ln} (hN : isN acc = false) (hd : lastV acc ≠ .str "down") : lstep most acc (.n k) = acc ++ [.n (min k most)] := by
  unfold isN at hN
  unfold lastV at hd
  unfold lstep
  dsimp only
  generalize acc.getLast? = o at hN hd
  cases o with
  | none => rfl
  | some c =>
    cases c with
    | n m => cases hN
    | up => rfl
    | dn => exact absurd rfl hd
theorem lstep_dn {most k : Nat} {acc : Ln} (hd : lastV acc = .str "down") : lstep most acc (.n k) = acc := by
  unfold lastV at hd
  unfold lstep
  dsimp only
  generalize acc.getLast? = o at hd
  cases o with
  | none => exact absurd hd (by decide +kernel)
  | some c =>
    cases c with
    | n m => exact absurd hd (by simp [kb])
    | up => exact absurd hd (by decide +kernel)
    | dn => rfl
theorem foldl_len (most : Nat) : ∀ (bs acc : Ln), (bs.foldl (lstep most) acc).length ≤ acc.length + bs.length
  | [], acc => by simp
  | b :: bs, acc => by
    have h1 := foldl_len most bs (lstep most acc b)
    have h2 := lstep_len most acc b
    rw [List.foldl_cons, List.length_cons]
    omega
section
variable {Pg : Program} {w : World} {K : PySem.W.Frag} {mg : Str → Option Value} {base : Heap}
abbrev sNm : Stmt := top 36
abbrev nNm : List Str := ["blocks", "rounds", "most", "found", "block", "last"]
theorem scNm : FnScope nNm ["blocks", "rounds"] (defScope sNm) := ⟨rfl, rfl, rfl, by decide +kernel, rfl, by decide +kernel, by decide +kernel⟩
abbrev spNm (K : PySem.W.Frag) : Sp := spF (fun a : Ln × Nat => [pL (a.1.map pK), pI a.2]) (fun a => a.1.length ≤ 1000 ∧ a.2 ≤ 5) (fun a => pBs K (nrm a.2 a.1))
theorem last_ix {acc : Ln} (h : acc ≠ []) : ixN (acc.map pK).length ((acc.map pK).length - 1 : Int) = some (acc.length - 1) ∧ (acc.map pK)[acc.length - 1]? = some (pV (lastV acc)) := by
  have hl := List.length_pos_iff.mpr h
  refine ⟨ixN_nat (by rw [List.length_map]; omega) (by rw [List.length_map]; omega), ?_⟩
  rw [List.getElem?_map]
  unfold lastV
  rw [List.getLast?_eq_getElem?, List.getElem?_eq_getElem (by omega)]
  rfl
theorem ok_Nm {f : Addr} {fd : FuncData} (F : FnP K "_law_normal" sNm f fd) (T : Cst K mg) : FnOk Pg w K mg base CX0 1 f fd ["blocks", "rounds"] (spNm K) := by
  refine fnF 0 F scNm (fun _ => rfl) fun cdv A outer s H0 Q E hr P0 a σ pre S kQ => ?_
  obtain ⟨bs, r⟩ := a
  obtain ⟨hl, hr5⟩ := pre
  dsimp only at hl hr5 S kQ
  have h2 : 2 ^ r ≤ 2 ^ 5 := Nat.pow_le_pow_right (by decide) hr5
  have e5 : 2 ^ 5 = 32 := rfl
  refine w_asg 2 (R := pI (2 ^ r - 1 : Nat)) S (JE.is (je_sub (je_shl je_i (je_v 1 fun _ => pv 1) ⟨by omega, by omega, by decide⟩) je_i) (congrArg (fun z => pI z) (shl_nat r))) (fun ow σ P H S => ?_) scNm.nd
  generalize hm : 2 ^ r - 1 = most at S
  refine w_asgF 3 S (jf_lst ja_nil) (fun ow σ P H S => ?_) scNm.nd
  refine w_for S (ji_list (K := K) (je_v 0 fun _ => pv 0)) (fun y => jg_name 4 fun _ => pg_name scNm.nd rfl (by first | exact .inl rfl | exact .inr rfl))
    (fun pre => [.pr (pL (bs.map pK)), .pr (pI r), .pr (pI most), .ow (oL ((pre.foldl (lstep most) []).map pK)), .un, .un]) (Wk.refl _) (by simp) ?_ ?_
  · intro xs' P0' H0' _ pre b post hys ow σ P H S
    have hpl : pre.length ≤ 1000 := by
      have : bs.length = pre.length + (post.length + 1) := by rw [hys, List.length_append, List.length_cons]
      omega
    have hal : (pre.foldl (lstep most) []).length ≤ 1000 := Nat.le_trans (foldl_len most pre []) (by simpa using hpl)
    rw [List.foldl_append]
    show XS _ _ _ _ _
    generalize pre.foldl (lstep most) [] = acc at S hal
    have hsz : ∀ z : List Pr, z.length ≤ 1001 → z.length < sizeLine := fun z hz => by rw [sizeLine_eq]; omega
    refine w_asg 5 (R := pV (lastV acc)) S (je_if (q := !(acc.map pK).isEmpty) (jt_neO (K := K) 3 (fun _ => pv 3) (pdl_map (fun b => pd_k b) acc) (sh_bs acc) (fun _ => room64 hr)) (fun h => ?_) (fun h => ?_)) (fun ow σ P H S => ?_) scNm.nd
    · have hne : acc ≠ [] := by rintro rfl; exact absurd h (by decide)
      exact je_ixO (K := K) 3 (fun _ => pv 3) (je_sub (je_lenO (K := K) 3 (fun _ => pv 3) (hm := fun _ => T.bt.len)) je_i) (hx := fun _ _ => rfl) (hj := (last_ix hne).1) (h := (last_ix hne).2)
    · have hne : acc = [] := by cases acc with | nil => rfl | cons a l => exact absurd h (by simp)
      subst hne
      exact je_s
    have isl : ∀ (p1 p2 p3 p4 : Pos) (acc1 : Ln), JE (C1 (cxOf CX0 Pg w K mg base nNm "_law_normal" (defScope sNm) f cdv A outer s H0 E).nox) (.Call (.Name "isinstance" p1) [.Name "last" p2, .Name "str" p3] [] p4) [.pr (pL (bs.map pK)), .pr (pI r), .pr (pI most), .ow (oL (acc1.map pK)), .pr (pK b), .pr (pV (lastV acc))] (pB (!isN acc)) [.pr (pL (bs.map pK)), .pr (pI r), .pr (pI most), .ow (oL (acc1.map pK)), .pr (pK b), .pr (pV (lastV acc))] := fun p1 p2 p3 p4 acc1 =>
      je_isi (K := K) (t := tyL acc) (T := "str") (je_v 5 fun _ => pv 5) (fun P H v _ e => by obtain rfl := e; exact last_ty acc) (kit_l acc) (fun _ => T.bt.isinstance) (fun _ => T.bt.str) (by decide +kernel)
    have isb : ∀ (p1 p2 p3 p4 : Pos) (acc1 : Ln), JE (C1 (cxOf CX0 Pg w K mg base nNm "_law_normal" (defScope sNm) f cdv A outer s H0 E).nox) (.Call (.Name "isinstance" p1) [.Name "block" p2, .Name "str" p3] [] p4) [.pr (pL (bs.map pK)), .pr (pI r), .pr (pI most), .ow (oL (acc1.map pK)), .pr (pK b), .pr (pV (lastV acc))] (pB (isE b)) [.pr (pL (bs.map pK)), .pr (pI r), .pr (pI most), .ow (oL (acc1.map pK)), .pr (pK b), .pr (pV (lastV acc))] := fun p1 p2 p3 p4 acc1 =>
      je_isi (K := K) (t := ty b) (T := "str") (je_v 4 fun _ => pv 4) (fun P H v _ e => by obtain rfl := e; exact kb_ty b) (kit_b b) (fun _ => T.bt.isinstance) (fun _ => T.bt.str) (by decide +kernel)
    have fin : ∀ {ow : List Addr} {σ : L2.St} {P H : Hp} (l : Ln), S8 xs' P0' H0' ow σ P H [.pr (pL (bs.map pK)), .pr (pI r), .pr (pI most), .ow (oL (l.map pK)), .pr (pK b), .pr (pV (lastV acc))] → l = lstep most acc b → At8 xs' P0' H0' [.pr (pL (bs.map pK)), .pr (pI r), .pr (pI most), .ow (oL ((lstep most acc b).map pK)), .un, .un] σ H := fun l S e => by
      rw [← e]
      exact at8 S (.keep (.keep (.keep (.keep (.drop (.drop .nil))))))
    refine w_if S (q := decide (b = .up) && isN acc) (jt_w (jw_and (JT.is (jt_cmp (fun _ => op_eq) (rv_eq (kb_scal _ _)) (je_v 4 fun _ => pv 4) je_s (nomark _)) (kb_up b)) fun _ => jw_and1 (JT.is (jt_not (jt_val (isl _ _ _ _ acc))) (by cases isN acc <;> rfl)))) (fun h P H S => ?_) (fun h P H S => w_nil ?_)
    · have h : b = .up ∧ isN acc = true := by simpa using h
      obtain ⟨rfl, hN⟩ := h
      have hne : acc ≠ [] := by rintro rfl; exact absurd hN (by decide)
      refine w_pop 3 (Rs := acc.map pK) S (fun _ => pv 3) (by simpa using hne) (k := fun ow P H S => w_nil ?_)
      have S : S8 xs' P0' H0' ow σ P H [.pr (pL (bs.map pK)), .pr (pI r), .pr (pI most), .ow (oL (acc.dropLast.map pK)), .pr (pK .up), .pr (pV (lastV acc))] := by rw [List.map_dropLast]; exact S
      refine w_if S (q := true) (jt_val (isb _ _ _ _ acc.dropLast)) (fun _ P H S => ?_) (fun h => absurd h (by decide))
      refine w_app 3 S (fun _ => pv 3) (je_v 4 fun _ => pv 4) rfl rfl (hsz _ (by rw [List.length_map, List.length_dropLast]; omega)) (fun ow P H S => w_nil (w_nil (fin (acc.dropLast ++ [.up]) (by rw [List.map_append]; exact S) ?_)))
      unfold lstep
      unfold isN at hN
      split at hN
      · rename_i m hm'
        rw [hm']
      · cases hN
    · refine w_if S (q := isE b) (jt_val (isb _ _ _ _ acc)) (fun hE P H S => ?_) (fun hE P H S => ?_)
      · refine w_app 3 S (fun _ => pv 3) (je_v 4 fun _ => pv 4) rfl rfl (hsz _ (by rw [List.length_map]; omega)) (fun ow P H S => w_nil (w_nil (fin (acc ++ [b]) (by rw [List.map_append]; exact S) ?_)))
        cases b with
        | n k => exact absurd hE (by simp [isE])
        | dn => rfl
        | up =>
          have hN : isN acc = false := by simpa using h
          unfold lstep
          unfold isN at hN
          split at hN
          · cases hN
          · rename_i hno
            congr 1
      · obtain ⟨k, rfl⟩ : ∃ k, b = .n k := by cases b <;> first | exact ⟨_, rfl⟩ | exact absurd hE (by decide)
        refine w_if S (q := isN acc) (JT.is (jt_not (jt_val (isl _ _ _ _ acc))) (by cases isN acc <;> rfl)) (fun hN P H S => ?_) (fun hN P H S => ?_)
        · obtain ⟨m, hm'⟩ : ∃ m, acc.getLast? = some (.n m) := by
            unfold isN at hN
            split at hN
            · rename_i m hm'
              exact ⟨m, hm'⟩
            · cases hN
          have hne : acc ≠ [] := by rintro rfl; cases hm'
          have hlv : lastV acc = .int (m : Int) := by unfold lastV; rw [hm']; rfl
          rw [hlv] at S
          refine w_pop 3 (Rs := acc.map pK) S (fun _ => pv 3) (by simpa using hne) (k := fun ow P H S => ?_)
          refine w_app 3 (R := pI ((min (m + k) most : Nat) : Int)) S (fun _ => pv 3) (JE.is (je_min2 (je_add (je_v 5 fun _ => pv 5) (je_v 4 fun _ => pv 4)) (je_v 2 fun _ => pv 2) (fun _ => T.bt.min)) (congrArg (fun z => pI z) (by omega))) rfl rfl (hsz _ (by rw [List.length_dropLast, List.length_map]; omega)) (fun ow P H S => w_nil (w_nil (w_nil ?_)))
          rw [← hlv] at S
          refine fin (acc.dropLast ++ [.n (min (m + k) most)]) (by rw [List.map_append, List.map_dropLast]; exact S) ?_
          unfold lstep
          rw [hm']
        · refine w_if S (q := !decide (lastV acc = .str "down")) (jt_cmp (fun _ => op_ne) (rv_ne (last_scal _ _)) (je_v 5 fun _ => pv 5) je_s (nomark _)) (fun hd P H S => ?_) (fun hd P H S => w_nil (w_nil (w_nil ?_)))
          · refine w_app 3 (R := pI ((min k most : Nat) : Int)) S (fun _ => pv 3) (JE.is (je_min2 (je_v 4 fun _ => pv 4) (je_v 2 fun _ => pv 2) (fun _ => T.bt.min)) (congrArg (fun z => pI z) (by omega))) rfl rfl (hsz _ (by rw [List.length_map]; omega)) (fun ow P H S => w_nil (w_nil (w_nil (w_nil (fin (acc ++ [.n (min k most)]) (by rw [List.map_append]; exact S) ?_)))))
            exact (lstep_app hN (by simpa using hd)).symm
          · exact w_nil (fin acc S (lstep_dn (by simpa using hd)).symm)
  · intro ow σ P H S
    obtain ⟨ow, P, S, _, _⟩ := S.still (i := 3) rfl
    have hfl := foldl_len most bs []
    refine w_ret S (je_if (q := decide ((0 : Int) < r)) (jt_cmp (fun _ => op_gt) rv_I0 (je_v 1 fun _ => pv 1) je_i (nomark _)) (fun h => ?_) (fun h => ?_)) fun v P H S r => kQ v P H S.gr r
    · have h : r ≠ 0 := by have : (0 : Int) < r := by simpa using h
                           omega
      show JE _ _ _ (pBs K (nrm r bs)) _
      unfold nrm
      rw [if_neg h, hm]
      exact je_tupleL (K := K) (je_v 3 fun _ => pv 3) (le_line (by rw [List.length_map]; simp at hfl; omega)) (fun _ => T.bt.tuple)
    · have h : r = 0 := by have : ¬ (0 : Int) < r := by simpa using h
                           omega
      show JE _ _ _ (pBs K (nrm r bs)) _
      unfold nrm
      rw [if_pos h]
      exact je_tup K ja_nil
end
end K74
/-! The law's own normal form is the program's. -/
namespace K74
open M74
theorem gl_map {f : Blk → Blk} (acc : Ln) : (acc.map f).getLast? = acc.getLast?.map f := by
  rw [List.getLast?_map]
theorem lstep_pstep {most : Nat} {acc : Ln} {b : Blk} : lstep most (acc.map (cutB most)) b = (pstep acc b).map (cutB most) := by
  unfold lstep pstep
  rw [gl_map]
  cases b with
  | dn => simp [cutB]
  | up =>
    cases h : acc.getLast? with
    | none => simp [cutB]
    | some c => cases c <;> simp [cutB, List.map_dropLast]
  | n k =>
    cases h : acc.getLast? with
    | none => simp [cutB]
    | some c =>
      cases c with
      | n m => simp [cutB, List.map_dropLast]; omega
      | up => simp [cutB]
      | dn => simp [cutB]
theorem fold_lstep (most : Nat) : ∀ (bs acc : Ln), bs.foldl (lstep most) (acc.map (cutB most)) = (bs.foldl pstep acc).map (cutB most)
  | [], _ => rfl
  | b :: bs, acc => by
    rw [List.foldl_cons, List.foldl_cons, lstep_pstep]
    exact fold_lstep most bs _
theorem nrm_form {r : Nat} (h : 0 < r) (bs : Ln) : nrm r bs = form (2 ^ r - 1) bs := by
  unfold nrm
  rw [if_neg (by omega)]
  have e := fold_lstep (2 ^ r - 1) bs []
  have h1 : 2 ^ 1 ≤ 2 ^ r := Nat.pow_le_pow_right (by decide) h
  have e1 : 2 ^ 1 = 2 := rfl
  unfold form
  rw [if_neg (by omega)]
  exact e
end K74
/-! list(range(n)). -/
namespace Ly
open PySem PySem.Spec PyProof.Rows L2
theorem pl_rg {P : Hp} (n : Nat) : PL P ((List.range n).map fun i : Nat => pI (i : Int)) (rgV 0 (n : Int)) := by
  unfold rgV
  rw [show ((n : Int) - 0).toNat = n by omega]
  generalize List.range n = l
  induction l with
  | nil => exact .nil
  | cons a l ih => exact .cons (by show V.int _ = V.int _; rw [Int.zero_add]) ih
section
variable {ι : Type} {F : ι → Cx} {ss ss1 : List Sl} {e : Expr} {p p2 pos pos2 : Pos}
theorem jf_listRg {n : Nat} (h : JE F e ss (pI (n : Int)) ss1) (hn : n ≤ 16777216) (hm : ∀ i, (F i).mg "list" = none) (hm2 : ∀ i, (F i).mg "range" = none) (hg : ∀ i, Gl (F i) "list" := by intro _; rfl) (hg2 : ∀ i, Gl (F i) "range" := by intro _; rfl) (hc : ∀ i, (F i).calm = true := by intro _; rfl)
    (he : ∀ i, starEach [e] (F i).env = (false, eval e (F i).env) :: starEach [] (F i).env := by intro _; rfl) (he2 : ∀ i, starEach [.Call (.Name "range" p2) [e] [] pos2] (F i).env = (false, eval (.Call (.Name "range" p2) [e] [] pos2) (F i).env) :: starEach [] (F i).env := by intro _; rfl) :
    JF F (.Call (.Name "list" p) [.Call (.Name "range" p2) [e] [] pos2] [] pos) ss ((List.range n).map fun i : Nat => pI (i : Int)) ss1 := fun xs P0 H0 ow σ P H S Q k =>
  ⟨tLstRg (tRg1 (XE F e)), fun i => pe_listRg (hc i) (hg i) (hm i) (prg_1 (hg2 i) (hm2 i) (xe i) (he i)) (he2 i), h _ _ _ _ _ _ _ S.here _ fun v P2 H2 S2 e2 r2 => by
    obtain rfl : v = V.int (n : Int) := r2
    refine ⟨n, rfl, RgOk.of_le (by omega) (by omega) (by omega) (by omega), fun l hl => ?_⟩
    have g := Gr.junk S2.ld hl (.lst (rgV 0 (n : Int)))
    exact k l _ P2 _ (S.back (S2.grow g) fun a ha => .inl ha) e2 (S2.gone hl) (S2.ld.none hl) upd_same (pl_rg n)⟩
end
end Ly
/-! _law_spots -/
namespace K74
open PySem PySem.Spec PyProof.Rows L2 Ly M74
/-- the law's own places in a block -/
def sptOf (most : Nat) : Blk → List Nat
  | .n k => (List.range k).filter fun j => decide (min j (k - 1 - j) ≤ most)
  | _ => List.range (most + 1)
def spt (most : Nat) (bs : Ln) : List NP := (idx bs).flatMap fun y => (sptOf most y.2).map fun j => (y.1, j)
theorem sptOf_len {most : Nat} {b : Blk} (hm : most ≤ 1000) (h : ∀ k, b = .n k → k ≤ 1000) : (sptOf most b).length ≤ 1001 := by
  cases b with
  | n k =>
    have h1 := List.length_filter_le (fun j => decide (min j (k - 1 - j) ≤ most)) (List.range k)
    rw [List.length_range] at h1
    have := h k rfl
    show ((List.range k).filter _).length ≤ 1001
    omega
  | up => show (List.range (most + 1)).length ≤ 1001; rw [List.length_range]; omega
  | dn => show (List.range (most + 1)).length ≤ 1001; rw [List.length_range]; omega
section
abbrev sSp : Stmt := top 37
abbrev nSp : List Str := ["blocks", "most", "spots", "k", "numbers", "n", "j"]
theorem scSp : FnScope nSp ["blocks", "most"] (defScope sSp) := ⟨rfl, rfl, rfl, by decide +kernel, rfl, by decide +kernel, by decide +kernel⟩
variable {Pg : Program} {w : World} {K : PySem.W.Frag} {mg : Str → Option Value} {base : Heap}
theorem jfIs {ι : Type} {F : ι → Cx} {e : Expr} {ss ss1 : List Sl} {Rs Rs' : List Pr} (h : JF F e ss Rs ss1) (q : Rs = Rs') : JF F e ss Rs' ss1 := q ▸ h
def sptP (most : Nat) (bs : Ln) (pre : List Nat) : List NP := pre.flatMap fun k => match bs[k]? with
  | some b => (sptOf most b).map fun j => (k, j)
  | none => []
theorem sptP_all (most : Nat) (bs : Ln) : sptP most bs (List.range bs.length) = spt most bs := by
  have key : ∀ l : List (Nat × Blk), (∀ y ∈ l, bs[y.1]? = some y.2) → sptP most bs (l.map (·.1)) = l.flatMap fun y => (sptOf most y.2).map fun j => (y.1, j) := by
    intro l
    induction l with
    | nil => intro _; rfl
    | cons y l ih =>
      intro h
      have h1 := ih fun z hz => h z (List.mem_cons_of_mem _ hz)
      unfold sptP at h1 ⊢
      rw [List.map_cons, List.flatMap_cons, List.flatMap_cons, h1, h y (by simp)]
  have e : (idx bs).map (·.1) = List.range bs.length := by
    unfold idx
    rw [List.map_fst_zip]
    simp
  rw [← e]
  exact key (idx bs) fun y hy => mem_idx.mp hy
abbrev spSp (K : PySem.W.Frag) : Sp := spF (fun a : Bool × Ln × Nat => [pBL K a.1 a.2.1, pI a.2.2]) (fun a => a.2.1.length ≤ 50 ∧ a.2.2 ≤ 1000 ∧ ∀ k, Blk.n k ∈ a.2.1 → k ≤ 1000) (fun a => pL ((spt a.2.2 a.2.1).map (pP2 K)))
theorem ok_Sp {f : Addr} {fd : FuncData} (F : FnP K "_law_spots" sSp f fd) (T : Cst K mg) : FnOk Pg w K mg base CX0 1 f fd ["blocks", "most"] (spSp K) := by
  refine fnF 0 F scSp (fun _ => rfl) fun cdv A outer s H0 Q E hr P0 a σ pre S kQ => ?_
  obtain ⟨t, bs, most⟩ := a
  obtain ⟨hl, hm, hk⟩ := pre
  dsimp only at hl hm hk S kQ
  have hlen : ∀ (p1 p2 p3 : Pos) (ss : List Sl), ss[0]? = some (.pr (pBL K t bs)) → JE (C1 (cxOf CX0 Pg w K mg base nSp "_law_spots" (defScope sSp) f cdv A outer s H0 E).nox) (.Call (.Name "len" p1) [.Name "blocks" p2] [] p3) ss (pI (bs.length : Int)) ss := fun p1 p2 p3 ss h0 => by
    have e : pI (((bs.map pK).length : Nat) : Int) = pI (bs.length : Int) := by rw [List.length_map]
    cases t with
    | true => exact JE.is (je_lenL (K := K) (je_v 0 (fun _ => pv 0) h0) (fun _ => T.bt.len)) e
    | false => exact JE.is (je_lenT (K := K) (je_v 0 (fun _ => pv 0) h0) (fun _ => T.bt.len)) e
  refine w_asgF 2 S (jf_lst ja_nil) (fun ow σ P H S => ?_) scSp.nd
  refine w_for (ys := List.range bs.length) (r := fun k : Nat => pI (k : Int)) S (JI.is (ji_range (hlen _ _ _ _ rfl) (by omega) (by omega) (hm := fun _ => T.bt.range)) ?_) (fun y => jg_name 3 fun _ => pg_name scSp.nd rfl (by first | exact .inl rfl | exact .inr rfl))
    (fun pre => [.pr (pBL K t bs), .pr (pI most), .ow (oL ((sptP most bs pre).map (pP2 K))), .un, .un, .un, .un]) (Wk.refl _) (by simp) ?_ ?_
  · have e : ((bs.length : Nat) : Int).toNat = bs.length := by omega
    rw [e]
    exact List.map_congr_left fun i _ => congrArg (fun z => pI z) (by omega)
  · intro xs' P0' H0' _ pre k post hys ow σ P H S
    have hmem : k ∈ List.range bs.length := by rw [hys]; simp
    have hkl : k < bs.length := List.mem_range.mp hmem
    obtain ⟨b, hb⟩ : ∃ b, bs[k]? = some b := ⟨_, List.getElem?_eq_getElem hkl⟩
    have hbk : ∀ m, b = .n m → m ≤ 1000 := fun m e => hk m (e ▸ List.mem_of_getElem? hb)
    have hpl : pre.length ≤ 50 := by
      have := congrArg List.length hys
      rw [List.length_range, List.length_append, List.length_cons] at this
      omega
    have hsz : (sptP most bs pre).length ≤ 50 * 1001 := by
      have key : ∀ pre : List Nat, (sptP most bs pre).length ≤ pre.length * 1001 := by
        intro pre
        refine flat_len _ 1001 pre fun z _ => ?_
        cases hz : bs[z]? with
        | none => simp
        | some c =>
          rw [List.length_map]
          exact sptOf_len hm fun m e => hk m (e ▸ List.mem_of_getElem? hz)
      have := key pre
      omega
    have hso := sptOf_len hm hbk
    have enx : sptP most bs (pre ++ [k]) = sptP most bs pre ++ (sptOf most b).map fun j => (k, j) := by
      unfold sptP
      rw [List.flatMap_append, List.flatMap_cons, hb]
      simp
    have ix : ∀ (p1 p2 p3 : Pos) (ss : List Sl), ss[0]? = some (.pr (pBL K t bs)) → ss[3]? = some (.pr (pI (k : Int))) → JE (C1 (cxOf CX0 Pg w K mg base nSp "_law_spots" (defScope sSp) f cdv A outer s H0 E).nox) (.Subscript (.Name "blocks" p1) (.Name "k" p2) p3) ss (pK b) ss := fun p1 p2 p3 ss h0 h1 => by
      cases t with
      | true => exact je_ixL (je_v 0 (fun _ => pv 0) h0) (je_v 3 (fun _ => pv 3) h1) (fun _ _ => rfl) (bs_ix hb).1 (bs_ix hb).2
      | false => exact je_ixT (je_v 0 (fun _ => pv 0) h0) (je_v 3 (fun _ => pv 3) h1) (fun _ _ => rfl) (bs_ix hb).1 (bs_ix hb).2
    refine w_if S (q := isE b) (jt_val (je_isi (K := K) (t := ty b) (T := "str") (ix _ _ _ _ rfl rfl) (fun P H v _ e => by obtain rfl := e; exact kb_ty b) (kit_b b) (fun _ => T.bt.isinstance) (fun _ => T.bt.str) (by decide +kernel))) (fun h P H S => ?_) (fun h P H S => ?_)
    · have e : sptOf most b = List.range (most + 1) := by cases b <;> first | rfl | exact absurd h (by simp [isE])
      refine w_asg 4 (R := pL ((sptOf most b).map fun j : Nat => pI (j : Int))) S (JE.is (JF.je (jf_listRg (n := most + 1) (JE.is (je_add (i := (most : Int)) (j := 1) (je_v 1 fun _ => pv 1) je_i) (congrArg (fun z => pI z) (by omega))) (by omega) (fun _ => T.bt.list) (fun _ => T.bt.range))) (by rw [e])) (fun ow σ P H S => w_nil ?_) scSp.nd
      refine w_asgF 2 (Rs := (sptP most bs (pre ++ [k])).map (pP2 K)) S (jfIs (jf_catO 2 (fun _ => pv 2) (JF.je (jf_lc [("j", 6)] [.pr (pBL K t bs), .pr (pI most), .un, .pr (pI (k : Int)), .pr (pL ((sptOf most b).map fun j : Nat => pI (j : Int))), .un, .un] (ji_list (K := K) (je_v 4 fun _ => pv 4)) (fun _ => blkOk_by (N := nSp) (sc := defScope sSp) (by decide +kernel)) (.keep (.keep (.drop (.keep (.keep (.keep (.keep .nil))))))) rfl
        (fun y => jg_name 6 fun _ => pg_name scSp.nd rfl (.inl rfl)) (by simp) (by simp) (fun _ => true) (fun j : Nat => pP2 K (k, j)) (fun j _ => jts_nil) (fun j _ _ => je_tup K (ja_cons (je_v 3 fun _ => pv 3) (ja_cons (je_v 6 fun _ => pv 6) ja_nil))) (le_line (by omega)) (fun _ => scSp.nd))) rfl rfl (le_line (by rw [List.length_map, List.length_map, List.filter_eq_self.mpr (fun _ _ => rfl)]; omega))) ?_) (fun ow σ P H S => w_nil (at8 S (.keep (.keep (.keep (.drop (.drop (.drop (.drop .nil)))))))) ) scSp.nd
      rw [enx, List.map_append, List.filter_eq_self.mpr (fun _ _ => rfl), List.map_map]
      rfl
    · obtain ⟨n, rfl⟩ : ∃ n, b = .n n := by cases b <;> first | exact ⟨_, rfl⟩ | exact absurd h (by simp [isE])
      have hn := hbk n rfl
      refine w_asg 5 (R := pI (n : Int)) S (ix _ _ _ _ rfl rfl) (fun ow σ P H S => ?_) scSp.nd
      refine w_asgMP 4 (R := pL ((sptOf most (.n n)).map fun j : Nat => pI (j : Int))) S (jm_lc1 (α := Nat) (ys := List.range n) (r := fun j : Nat => pI (j : Int)) [("j", 6)] [.pr (pBL K t bs), .pr (pI most), .un, .pr (pI (k : Int)), .un, .pr (pI (n : Int)), .un] (fun j => decide (min j (n - 1 - j) ≤ most)) (fun j : Nat => pI (j : Int)) (JI.is (ji_range (je_v 5 fun _ => pv 5) (by omega) (by omega) (hm := fun _ => T.bt.range)) (by
          rw [show ((n : Nat) : Int).toNat = n by omega]
          exact List.map_congr_left fun i _ => congrArg (fun z => pI z) (by omega))) (fun _ => blkOk_by (N := nSp) (sc := defScope sSp) (by decide +kernel)) (.keep (.keep (.drop (.keep (.keep (.keep (.keep .nil))))))) rfl
        (fun y => jg_name 6 fun _ => pg_name scSp.nd rfl (by first | exact .inl rfl | exact .inr rfl)) (by simp) (by simp) (fun j hj => jts_one (JT.is (jt_cmp (fun _ => op_le) rv_I0 (je_min2 (je_v 6 fun _ => pv 6) (je_sub (je_sub (je_v 5 fun _ => pv 5) je_i) (je_v 6 fun _ => pv 6)) (fun _ => T.bt.min)) (je_v 1 fun _ => pv 1) (nomark _)) (by
          have := List.mem_range.mp hj
          exact decide_eq_decide.mpr (by omega)))) (fun j _ _ => je_v 6 fun _ => pv 6) (le_line (by rw [List.length_range]; omega)) (fun _ => scSp.nd)) oL_pL (fun ow σ P H S => w_nil ?_) scSp.nd
      refine w_asgF 2 (Rs := (sptP most bs (pre ++ [k])).map (pP2 K)) S (jfIs (jf_catO 2 (fun _ => pv 2) (JF.je (jf_lc [("j", 6)] [.pr (pBL K t bs), .pr (pI most), .un, .pr (pI (k : Int)), .pr (pL ((sptOf most (.n n)).map fun j : Nat => pI (j : Int))), .pr (pI (n : Int)), .un] (ji_list (K := K) (je_v 4 fun _ => pv 4)) (fun _ => blkOk_by (N := nSp) (sc := defScope sSp) (by decide +kernel)) (.keep (.keep (.drop (.keep (.keep (.keep (.keep .nil))))))) rfl
        (fun y => jg_name 6 fun _ => pg_name scSp.nd rfl (.inl rfl)) (by simp) (by simp) (fun _ => true) (fun j : Nat => pP2 K (k, j)) (fun j _ => jts_nil) (fun j _ _ => je_tup K (ja_cons (je_v 3 fun _ => pv 3) (ja_cons (je_v 6 fun _ => pv 6) ja_nil))) (le_line (by omega)) (fun _ => scSp.nd))) rfl rfl (le_line (by rw [List.length_map, List.length_map, List.filter_eq_self.mpr (fun _ _ => rfl)]; omega))) ?_) (fun ow σ P H S => w_nil (at8 S (.keep (.keep (.keep (.drop (.drop (.drop (.drop .nil)))))))) ) scSp.nd
      rw [enx, List.map_append, List.filter_eq_self.mpr (fun _ _ => rfl), List.map_map]
      rfl
  · intro ow σ P H S
    obtain ⟨ow, P, S, _, _⟩ := S.still (i := 2) rfl
    exact w_ret S (je_v 2 fun _ => pv 2) fun v P H S r => kQ v P H S.gr (by rw [← sptP_all]; exact r)
end
end K74
/-! x not in xs, xs a slot's own list of data. -/
namespace Ly
open PySem PySem.Spec PyProof.Rows L2
section
variable {ι : Type} {F : ι → Cx} {K : PySem.W.Frag} {ss ss1 : List Sl} {R : Pr} {Rs : List Pr} {o a : Expr} {pos : Pos}
theorem jt_niO (i : Nat) {d : PyData} {ds : List PyData} (ha : JE F a ss R ss1) (ho : ∀ j, PE (F j) o (tVar i)) (da : PD K R d) (hd : PDL K Rs ds) (sd : SeqAt.shaped d = true) (sds : SeqAt.shaped (.list ds) = true) (hu : ∀ i, (F i).A.units + 65 < cLine) (hs : ss1[i]? = some (.ow (oL Rs)) := by rfl)
    (hm : behindInMarks .NotIn o = false := by rfl) (hK : ∀ i, (F i).K = K := by intro _; rfl) : JT F (.Compare a [.NotIn] [o] pos) ss (!ds.any fun z => PyData.eqv z d) ss1 := fun xs P0 H0 ow σ P H S Q k =>
  ⟨_, fun j => pt_cmpR (hK j ▸ op_notInD (hu j)) (xe j) (ho j) hm, ha _ _ _ _ _ _ _ S _ fun v P2 H2 S2 e2 r2 => by
    obtain ⟨l, vs, ev, hl, rs⟩ := S2.ownL hs
    exact ⟨_, ev, d, ds, da P2 H2 v S2.ld r2, .lst (.inl (.inl hl)) (hd P2 H2 vs S2.ld rs), sd, sds, ⟨_, rfl, k P2 H2 S2 e2⟩⟩⟩
end
end Ly
/-! _law_parts_below -/
namespace K74
open PySem PySem.Spec PyProof.Rows L2 Ly M74
theorem eqv_b (a b : Blk) : PyData.eqv (bD a) (bD b) = decide (a = b) := by
  cases a with
  | n k =>
    cases b with
    | n m =>
      rw [Bool.eq_iff_iff]
      simp only [bD, PyData.eqv, beq_iff_eq, decide_eq_true_eq, Blk.n.injEq]
      omega
    | up => simp [bD, PyData.eqv]
    | dn => simp [bD, PyData.eqv]
  | up =>
    cases b with
    | n m => simp [bD, PyData.eqv]
    | up => decide +kernel
    | dn => decide +kernel
  | dn =>
    cases b with
    | n m => simp [bD, PyData.eqv]
    | up => decide +kernel
    | dn => decide +kernel
theorem eqv_bs : ∀ f g : Ln, PyData.eqvAll (f.map bD) (g.map bD) = decide (f = g)
  | [], [] => by simp [PyData.eqvAll]
  | [], _ :: _ => by simp [PyData.eqvAll]
  | _ :: _, [] => by simp [PyData.eqvAll]
  | a :: f, b :: g => by
    simp only [List.map_cons, PyData.eqvAll, eqv_b, eqv_bs f g, List.cons.injEq]
    by_cases h1 : a = b <;> by_cases h2 : f = g <;> simp [h1, h2]
def hD (p : Ln × Ln) : PyData := .tuple [.tuple (p.1.map bD), .tuple (p.2.map bD)]
theorem eqv_h (p q : Ln × Ln) : PyData.eqv (hD p) (hD q) = decide (p = q) := by
  obtain ⟨a, b⟩ := p
  obtain ⟨c, d⟩ := q
  simp only [hD, PyData.eqv, PyData.eqvAll, eqv_bs, Prod.mk.injEq, Bool.and_true]
  by_cases h1 : a = c <;> by_cases h2 : b = d <;> simp [h1, h2]
theorem pd_h {K : PySem.W.Frag} (p : Ln × Ln) : PD K (pHv K p) (hD p) := pd_t (pdl_cons (pd_t (pdl_map (fun b => pd_k b) _)) (pdl_cons (pd_t (pdl_map (fun b => pd_k b) _)) pdl_nil))
theorem lay_h (p : Ln × Ln) : (hD p).canLay0 = true ∧ (hD p).depth = 2 := by
  simp [hD, PyData.canLay0, PyData.canLayAll0, PyData.depth, PyData.depthAll, lay_bs, dep_bs]
theorem lay_hs : ∀ l : List (Ln × Ln), PyData.canLayAll0 (l.map hD) = true ∧ PyData.depthAll (l.map hD) ≤ 2
  | [] => by simp [PyData.canLayAll0, PyData.depthAll]
  | p :: l => by
    have h := lay_h p
    have t := lay_hs l
    rw [List.map_cons]
    refine ⟨by simp [PyData.canLayAll0, h.1, t.1], ?_⟩
    simp only [PyData.depthAll, h.2]
    omega
theorem sh_h (p : Ln × Ln) : SeqAt.shaped (hD p) = true := by
  unfold SeqAt.shaped
  rw [(lay_h p).1, (lay_h p).2]
  rfl
theorem sh_hs (l : List (Ln × Ln)) : SeqAt.shaped (.list (l.map hD)) = true := by
  unfold SeqAt.shaped
  have h := lay_hs l
  have h1 : (PyData.list (l.map hD)).canLay0 = true := by simp [PyData.canLay0, h.1]
  have h2 : (PyData.list (l.map hD)).depth ≤ 64 := by
    simp only [PyData.depth]
    omega
  rw [h1, decide_eq_true h2]
  rfl
/-- the halves in the law's own form -/
def lhv (r : Nat) (bs : Ln) (q : NP) : Ln × Ln := (nrm r (lf bs q.1 q.2), nrm r (rg bs q.1 q.2))
def partsB (bs : Ln) (r : Nat) : List (Ln × Ln) := ded ((spt (2 ^ r - 1) bs).map (lhv r bs))
theorem any_h (p : Ln × Ln) (l : List (Ln × Ln)) : ((l.map hD).any fun z => PyData.eqv z (hD p)) = decide (p ∈ l) := by
  induction l with
  | nil => simp
  | cons q l ih =>
    rw [List.map_cons, List.any_cons, ih, eqv_h]
    by_cases h1 : q = p
    · subst h1; simp
    · have : p ≠ q := fun z => h1 z.symm
      simp [h1, this]
theorem mem_spt {most : Nat} {bs : Ln} {q : NP} (h : q ∈ spt most bs) : ∃ b, bs[q.1]? = some b ∧ okJ b q.2 := by
  obtain ⟨y, hy, hq⟩ := List.mem_flatMap.mp h
  obtain ⟨j, hj, rfl⟩ := List.mem_map.mp hq
  refine ⟨y.2, mem_idx.mp hy, ?_⟩
  cases hb : y.2 with
  | n k =>
    rw [hb] at hj
    have := (List.mem_filter.mp hj).1
    exact List.mem_range.mp this
  | up => trivial
  | dn => trivial
theorem spt_len {most : Nat} {bs : Ln} (hm : most ≤ 1000) (hk : ∀ k, Blk.n k ∈ bs → k ≤ 1000) : (spt most bs).length ≤ bs.length * 1001 := by
  have h := flat_len (fun y : Nat × Blk => (sptOf most y.2).map fun j => (y.1, j)) 1001 (idx bs) fun y hy => by
    rw [List.length_map]
    exact sptOf_len hm fun m e => hk m (by have := idx_snd hy; rw [e] at this; exact this)
  rw [idx_len] at h
  exact h
theorem room65 {A : Around} {k : Nat} (h : Room k A) : A.units + 65 < cLine := by have := h.un; omega
section
variable {Pg : Program} {w : World} {K : PySem.W.Frag} {mg : Str → Option Value} {base : Heap}
abbrev sPB : Stmt := top 38
abbrev nPB : List Str := ["line", "rounds", "pairs", "spot", "left", "right"]
theorem scPB : FnScope nPB ["line", "rounds"] (defScope sPB) := ⟨rfl, rfl, rfl, by decide +kernel, rfl, by decide +kernel, by decide +kernel⟩
abbrev spPB (K : PySem.W.Frag) : Sp := spF (fun a : Ln × Nat => [pBs K a.1, pI ((a.2 + 1 : Nat) : Int)]) (fun a => a.1.length ≤ 50 ∧ a.2 ≤ 4 ∧ ∀ k, Blk.n k ∈ a.1 → k ≤ 1000) (fun a => pL ((partsB a.1 a.2).map (pHv K)))
theorem ok_PB {f : Addr} {fd : FuncData} (F : FnP K "_law_parts_below" sPB f fd) (cS : ∀ A : Around, Room 1 A → Cal Pg w K mg base A "_law_spots" (spSp K)) (cP : ∀ A : Around, Room 1 A → Cal Pg w K mg base A "_law_part_of" (spPO K)) (cN : ∀ A : Around, Room 1 A → Cal Pg w K mg base A "_law_normal" (spNm K)) :
    FnOk Pg w K mg base CX0 2 f fd ["line", "rounds"] (spPB K) := by
  refine fnF 1 F scPB (fun _ => rfl) fun cdv A outer s H0 Q E hr P0 a σ pre S kQ => ?_
  obtain ⟨bs, r⟩ := a
  obtain ⟨hl, hr4, hk⟩ := pre
  dsimp only at hl hr4 hk S kQ
  have h2 : 2 ^ r ≤ 2 ^ 4 := Nat.pow_le_pow_right (by decide) hr4
  have e4 : 2 ^ 4 = 16 := rfl
  have e0 : pI (((r + 1 : Nat) : Int) - 1) = pI (r : Int) := congrArg (fun z => pI z) (by omega)
  refine w_asgF 2 S (jf_lst ja_nil) (fun ow σ P H S => ?_) scPB.nd
  refine w_for (ys := spt (2 ^ r - 1) bs) (r := pP2 K) S (ji_list (K := K) (je_call (fun _ => cS _ hr) (false, bs, 2 ^ r - 1) (ja_cons (je_v 0 fun _ => pv 0) (ja_cons (JE.is (je_sub (je_shl (i := 1) (j := (r : Int)) je_i (JE.is (je_sub (je_v 1 fun _ => pv 1) je_i) e0) ⟨by omega, by omega, by decide⟩) je_i) (congrArg (fun z => pI z) (shl_nat r))) ja_nil)) ⟨hl, by show 2 ^ r - 1 ≤ 1000; omega, hk⟩))
    (fun y => jg_name 3 fun _ => pg_name scPB.nd rfl (by first | exact .inl rfl | exact .inr rfl))
    (fun pre => [.pr (pBs K bs), .pr (pI ((r + 1 : Nat) : Int)), .ow (oL ((ded (pre.map (lhv r bs))).map (pHv K))), .un, .un, .un]) (Wk.refl _) (by simp) ?_ ?_
  · intro xs' P0' H0' _ pre q post hys ow σ P H S
    have hq : q ∈ spt (2 ^ r - 1) bs := by rw [hys]; simp
    obtain ⟨b, hb, hj⟩ := mem_spt hq
    have hlf := lf_len bs q.1 q.2
    have hrg := rg_len bs q.1 q.2
    refine w_asg 4 S (je_call (fun _ => cN _ hr) (lf bs q.1 q.2, r) (ja_cons (je_call (fun _ => cP _ hr) (⟨false, bs, q.1, q.2, false⟩ : POx) (ja_cons (je_v 0 fun _ => pv 0) (ja_cons (je_v 3 fun _ => pv 3) (ja_cons je_bl ja_nil))) ⟨by show bs.length ≤ 1000; omega, b, hb, hj⟩) (ja_cons (JE.is (je_sub (je_v 1 fun _ => pv 1) je_i) e0) ja_nil)) ⟨by show (lf bs q.1 q.2).length ≤ 1000; omega, by show r ≤ 5; omega⟩) (fun ow σ P H S => ?_) scPB.nd
    refine w_asg 5 S (je_call (fun _ => cN _ hr) (rg bs q.1 q.2, r) (ja_cons (je_call (fun _ => cP _ hr) (⟨false, bs, q.1, q.2, true⟩ : POx) (ja_cons (je_v 0 fun _ => pv 0) (ja_cons (je_v 3 fun _ => pv 3) (ja_cons je_bl ja_nil))) ⟨by show bs.length ≤ 1000; omega, b, hb, hj⟩) (ja_cons (JE.is (je_sub (je_v 1 fun _ => pv 1) je_i) e0) ja_nil)) ⟨by show (rg bs q.1 q.2).length ≤ 1000; omega, by show r ≤ 5; omega⟩) (fun ow σ P H S => ?_) scPB.nd
    have eN : ded ((pre ++ [q]).map (lhv r bs)) = addD (ded (pre.map (lhv r bs))) (lhv r bs q) := by
      unfold ded
      rw [List.map_append, List.foldl_append]
      rfl
    have hal : (ded (pre.map (lhv r bs))).length ≤ 50 * 1001 := by
      have h1 := ded_len (pre.map (lhv r bs))
      have h2 : (spt (2 ^ r - 1) bs).length ≤ bs.length * 1001 := spt_len (by omega) hk
      have h3 : (spt (2 ^ r - 1) bs).length = pre.length + (post.length + 1) := by rw [hys, List.length_append, List.length_cons]
      rw [List.length_map] at h1
      have h4 : bs.length * 1001 ≤ 50 * 1001 := Nat.mul_le_mul hl (Nat.le_refl _)
      omega
    rw [eN]
    generalize ded (pre.map (lhv r bs)) = acc at S hal
    have hp : ∀ (p1 p2 p3 : Pos) (k : Nat), JE (C1 (cxOf CX0 Pg w K mg base nPB "_law_parts_below" (defScope sPB) f cdv A outer s H0 E).nox) (.Tuple [.Name "left" p1, .Name "right" p2] k p3) [.pr (pBs K bs), .pr (pI ((r + 1 : Nat) : Int)), .ow (oL (acc.map (pHv K))), .pr (pP2 K q), .pr (pBs K (nrm r (lf bs q.1 q.2))), .pr (pBs K (nrm r (rg bs q.1 q.2)))] (pHv K (lhv r bs q)) [.pr (pBs K bs), .pr (pI ((r + 1 : Nat) : Int)), .ow (oL (acc.map (pHv K))), .pr (pP2 K q), .pr (pBs K (nrm r (lf bs q.1 q.2))), .pr (pBs K (nrm r (rg bs q.1 q.2)))] := fun p1 p2 p3 k =>
      je_tup K (ja_cons (je_v 4 fun _ => pv 4) (ja_cons (je_v 5 fun _ => pv 5) ja_nil))
    refine w_if S (q := !decide (lhv r bs q ∈ acc)) (JT.is (jt_niO (K := K) 2 (hp _ _ _ _) (fun _ => pv 2) (pd_h _) (pdl_map (fun p => pd_h p) acc) (sh_h _) (sh_hs _) (fun _ => room65 hr)) (by rw [any_h])) (fun h P H S => ?_) (fun h P H S => w_nil (w_nil ?_))
    · have h : lhv r bs q ∉ acc := by simpa using h
      refine w_app 2 S (fun _ => pv 2) (hp _ _ _ _) rfl rfl (by rw [List.length_map, sizeLine_eq]; omega) (fun ow P H S => w_nil (w_nil ?_))
      unfold addD
      rw [if_neg h, List.map_append]
      exact at8 S (.keep (.keep (.keep (.drop (.drop (.drop .nil))))))
    · have h : lhv r bs q ∈ acc := by simpa using h
      unfold addD
      rw [if_pos h]
      exact at8 S (.keep (.keep (.keep (.drop (.drop (.drop .nil))))))
  · intro ow σ P H S
    obtain ⟨ow, P, S, _, _⟩ := S.still (i := 2) rfl
    exact w_ret S (je_v 2 fun _ => pv 2) fun v P H S r => kQ v P H S.gr r
end
end K74
/-! the law's own types of lines: equal just for what is alike -/
namespace K74
open PySem PySem.Spec PyProof.Rows L2 Ly M74
theorem E_nrm (r : Nat) {a : Ln} (h : Pos a) : E r a (nrm r a) := by
  by_cases z : r = 0
  · subst z; trivial
  · rw [nrm_form (by omega)]; exact E_form r h
theorem nrm_zero (a : Ln) : nrm 0 a = [] := rfl
theorem pos_nrm (r : Nat) {a : Ln} (h : Pos a) : Pos (nrm r a) := by
  by_cases z : r = 0
  · subst z; exact Pos.nil
  · rw [nrm_form (by omega)]; exact pos_form r h
theorem sptOf_of {most j : Nat} {b : Blk} (h : j ∈ spotsOf most b) : j ∈ sptOf most b := by
  cases b with
  | n k =>
    obtain ⟨h1, h2⟩ := List.mem_filter.mp h
    refine List.mem_filter.mpr ⟨h1, ?_⟩
    have h1 := List.mem_range.mp h1
    simp only [Bool.or_eq_true, decide_eq_true_eq] at h2 ⊢
    omega
  | up => exact h
  | dn => exact h
theorem mem_sptI {most : Nat} {f : Ln} {p : NP} {b : Blk} (h : f[p.1]? = some b) (g : p.2 ∈ sptOf most b) : p ∈ spt most f :=
  List.mem_flatMap.mpr ⟨(p.1, b), mem_idx.mpr h, List.mem_map.mpr ⟨p.2, g, rfl⟩⟩
theorem spt_enough (r : Nat) {f : Ln} {p : NP} (h : Plc f p) : ∃ q ∈ spt (2 ^ r - 1) f, q.1 = p.1 ∧ E2 r f p f q := by
  obtain ⟨q, hq, e1, e2⟩ := plc_enough r h
  obtain ⟨b, hb, hj⟩ := mem_plc.mp hq
  exact ⟨q, mem_sptI hb (sptOf_of hj), e1, e2⟩
theorem E_spt {r : Nat} {f g : Ln} : E (r + 1) f g ↔ (∀ p ∈ spt (2 ^ r - 1) f, ∃ q ∈ spt (2 ^ r - 1) g, E2 r f p g q) ∧ ∀ q ∈ spt (2 ^ r - 1) g, ∃ p ∈ spt (2 ^ r - 1) f, E2 r f p g q := by
  rw [E_plc]
  constructor
  · intro h
    refine ⟨fun p hp => ?_, fun q hq => ?_⟩
    · obtain ⟨q, hq, e⟩ := h.1 p (mem_spt hp)
      obtain ⟨q', hq', _, e'⟩ := spt_enough r hq
      exact ⟨q', hq', e.trans e'⟩
    · obtain ⟨p, hp, e⟩ := h.2 q (mem_spt hq)
      obtain ⟨p', hp', _, e'⟩ := spt_enough r hp
      exact ⟨p', hp', e'.symm.trans e⟩
  · intro h
    refine ⟨fun p hp => ?_, fun q hq => ?_⟩
    · obtain ⟨p', hp', _, e⟩ := spt_enough r hp
      obtain ⟨q, hq, e'⟩ := h.1 p' hp'
      exact ⟨q, mem_spt hq, e.trans e'⟩
    · obtain ⟨q', hq', _, e⟩ := spt_enough r hq
      obtain ⟨p, hp, e'⟩ := h.2 q' hq'
      exact ⟨p, mem_spt hp, e'.trans e.symm⟩
theorem mem_partsB {f : Ln} {l : Nat} {z : Ln × Ln} : z ∈ partsB f l ↔ ∃ q ∈ spt (2 ^ l - 1) f, lhv l f q = z := by
  unfold partsB
  rw [mem_ded, List.mem_map]
def halvL (l : Nat) (fs : List Ln) : List Ln := (ded fs).flatMap fun f => (partsB f l).flatMap fun p => [p.1, p.2]
def lawLev (l : Nat) (fs : List Ln) : List Ln := ded (halvL l fs)
def keyL (l : Nat) (g : Ln → Nat) (f : Ln) : List NP := cz ((partsB f l).map fun p => (g p.1, g p.2))
def numL : Nat → List Ln → Ln → Nat
  | 0, _ => fun _ => 0
  | l + 1, fs => fun f => ixOf (ded ((ded fs).map (keyL l (numL l (lawLev l fs))))) (keyL l (numL l (lawLev l fs)) f)
theorem mem_lawLev {l : Nat} {fs : List Ln} {f : Ln} {p : Ln × Ln} (hf : f ∈ fs) (hp : p ∈ partsB f l) : p.1 ∈ lawLev l fs ∧ p.2 ∈ lawLev l fs := by
  unfold lawLev halvL
  constructor <;> exact mem_ded.mpr (List.mem_flatMap.mpr ⟨f, mem_ded.mpr hf, List.mem_flatMap.mpr ⟨p, hp, by simp⟩⟩)
theorem lawLev_of {l : Nat} {fs : List Ln} {g : Ln} (h : g ∈ lawLev l fs) : ∃ f ∈ fs, ∃ q ∈ spt (2 ^ l - 1) f, g = nrm l (lf f q.1 q.2) ∨ g = nrm l (rg f q.1 q.2) := by
  unfold lawLev halvL at h
  obtain ⟨f, hf, h⟩ := List.mem_flatMap.mp (mem_ded.mp h)
  obtain ⟨p, hp, h⟩ := List.mem_flatMap.mp h
  obtain ⟨q, hq, rfl⟩ := mem_partsB.mp hp
  refine ⟨f, mem_ded.mp hf, q, hq, ?_⟩
  simpa [lhv] using h
theorem pos_lawLev {l : Nat} {fs : List Ln} (h : ∀ f ∈ fs, Pos f) : ∀ g ∈ lawLev l fs, Pos g := by
  intro g hg
  obtain ⟨f, hf, q, hq, e⟩ := lawLev_of hg
  rcases e with e | e
  · rw [e]; exact pos_nrm l (pos_lf (h f hf) _ _)
  · rw [e]; exact pos_nrm l (pos_rg (h f hf) _ _)
theorem numL_ok : ∀ (l : Nat) (fs : List Ln), (∀ f ∈ fs, Pos f) → ∀ f ∈ fs, ∀ g ∈ fs, numL l fs f = numL l fs g ↔ E l f g
  | 0, _, _, _, _, _, _ => ⟨fun _ => trivial, fun _ => rfl⟩
  | l + 1, fs, hp, f, hf, g, hg => by
    have ih := numL_ok l (lawLev l fs) (pos_lawLev hp)
    have pr : ∀ (f g : Ln), f ∈ fs → g ∈ fs → ∀ p ∈ spt (2 ^ l - 1) f, ∀ q ∈ spt (2 ^ l - 1) g,
        ((numL l (lawLev l fs) (lhv l f p).1, numL l (lawLev l fs) (lhv l f p).2) = (numL l (lawLev l fs) (lhv l g q).1, numL l (lawLev l fs) (lhv l g q).2) ↔ E2 l f p g q) := by
      intro f g hf hg p hpp q hq
      have a := mem_lawLev hf (mem_partsB.mpr ⟨p, hpp, rfl⟩)
      have b := mem_lawLev hg (mem_partsB.mpr ⟨q, hq, rfl⟩)
      have ef1 := E_nrm l (pos_lf (hp f hf) p.1 p.2)
      have ef2 := E_nrm l (pos_rg (hp f hf) p.1 p.2)
      have eg1 := E_nrm l (pos_lf (hp g hg) q.1 q.2)
      have eg2 := E_nrm l (pos_rg (hp g hg) q.1 q.2)
      rw [Prod.mk.injEq, ih _ a.1 _ b.1, ih _ a.2 _ b.2]
      exact ⟨fun h => ⟨ef1.trans (h.1.trans eg1.symm), ef2.trans (h.2.trans eg2.symm)⟩, fun h => ⟨ef1.symm.trans (h.1.trans eg1), ef2.symm.trans (h.2.trans eg2)⟩⟩
    have hkey : keyL l (numL l (lawLev l fs)) f = keyL l (numL l (lawLev l fs)) g ↔ E (l + 1) f g := by
      unfold keyL
      rw [cz_eq, E_spt]
      constructor
      · intro h
        refine ⟨fun p hpp => ?_, fun q hq => ?_⟩
        · obtain ⟨z, hz, e⟩ := List.mem_map.mp ((h _).mp (List.mem_map.mpr ⟨lhv l f p, mem_partsB.mpr ⟨p, hpp, rfl⟩, rfl⟩))
          obtain ⟨q, hq, rfl⟩ := mem_partsB.mp hz
          exact ⟨q, hq, (pr f g hf hg p hpp q hq).mp e.symm⟩
        · obtain ⟨z, hz, e⟩ := List.mem_map.mp ((h _).mpr (List.mem_map.mpr ⟨lhv l g q, mem_partsB.mpr ⟨q, hq, rfl⟩, rfl⟩))
          obtain ⟨p, hpp, rfl⟩ := mem_partsB.mp hz
          exact ⟨p, hpp, (pr f g hf hg p hpp q hq).mp e⟩
      · intro h x
        constructor
        · intro hx
          obtain ⟨z, hz, rfl⟩ := List.mem_map.mp hx
          obtain ⟨p, hpp, rfl⟩ := mem_partsB.mp hz
          obtain ⟨q, hq, e⟩ := h.1 p hpp
          exact List.mem_map.mpr ⟨lhv l g q, mem_partsB.mpr ⟨q, hq, rfl⟩, ((pr f g hf hg p hpp q hq).mpr e).symm⟩
        · intro hx
          obtain ⟨z, hz, rfl⟩ := List.mem_map.mp hx
          obtain ⟨q, hq, rfl⟩ := mem_partsB.mp hz
          obtain ⟨p, hpp, e⟩ := h.2 q hq
          exact List.mem_map.mpr ⟨lhv l f p, mem_partsB.mpr ⟨p, hpp, rfl⟩, (pr f g hf hg p hpp q hq).mpr e⟩
    rw [← hkey]
    show ixOf (ded ((ded fs).map (keyL l (numL l (lawLev l fs))))) _ = ixOf (ded ((ded fs).map (keyL l (numL l (lawLev l fs))))) _ ↔ _
    exact ⟨fun h => idx_inj (mem_ded.mpr (List.mem_map.mpr ⟨f, mem_ded.mpr hf, rfl⟩)) h, fun h => by rw [h]⟩
/-- the type of a line among these -/
def typL (r : Nat) (lines : List Ln) (bs : Ln) : Nat := numL r (lines.map (nrm r)) (nrm r bs)
theorem typL_ok {r : Nat} {lines : List Ln} (hp : ∀ f ∈ lines, Pos f) {f g : Ln} (hf : f ∈ lines) (hg : g ∈ lines) : typL r lines f = typL r lines g ↔ E r f g := by
  unfold typL
  rw [numL_ok r (lines.map (nrm r)) (fun h hh => by
    obtain ⟨a, ha, rfl⟩ := List.mem_map.mp hh
    exact pos_nrm r (hp a ha)) _ (List.mem_map.mpr ⟨f, hf, rfl⟩) _ (List.mem_map.mpr ⟨g, hg, rfl⟩)]
  have e1 := E_nrm r (hp f hf)
  have e2 := E_nrm r (hp g hg)
  exact ⟨fun h => e1.trans (h.trans e2.symm), fun h => e1.symm.trans (h.trans e2)⟩
/-! ### how many -/
/-- a bound for the law's own types: n lines of weight at most m, l rounds -/
def okL : Nat → Nat → Nat → Prop
  | n, _, 0 => n ≤ 16000000
  | n, m, l + 1 => n ≤ 16000000 ∧ 2 ^ l * m ≤ 62 ∧ okL (n * (2 * (2 ^ l * m))) (m + 1) l
theorem okL_mono : ∀ {l n n' m m' : Nat}, n ≤ n' → m ≤ m' → okL n' m' l → okL n m l
  | 0, n, n', m, m', hn, _, h => Nat.le_trans hn h
  | l + 1, n, n', m, m', hn, hm, h => by
    obtain ⟨h1, h2, h3⟩ := h
    have hq : 2 ^ l * m ≤ 2 ^ l * m' := Nat.mul_le_mul (Nat.le_refl _) hm
    exact ⟨Nat.le_trans hn h1, Nat.le_trans hq h2, okL_mono (Nat.mul_le_mul hn (Nat.mul_le_mul (Nat.le_refl _) hq)) (by omega) h3⟩
theorem okL.n {n m l : Nat} (h : okL n m l) : n ≤ 16000000 := by
  cases l with
  | zero => exact h
  | succ l => exact h.1
theorem filt2 (k a b : Nat) : ((List.range k).filter fun j => decide (min j (k - 1 - j) ≤ a)).length ≤ 2 * (a + 1) := by
  have key : ((List.range k).filter fun j => decide (min j (k - 1 - j) ≤ a)).length ≤ ((List.range k).filter fun j => decide (j ≤ a)).length + ((List.range k).filter fun j => decide (k - 1 - j ≤ a)).length := by
    generalize List.range k = L
    induction L with
    | nil => simp
    | cons x L ih =>
      simp only [List.filter_cons]
      by_cases h1 : x ≤ a <;> by_cases h2 : k - 1 - x ≤ a
      · have h3 : min x (k - 1 - x) ≤ a := by omega
        simp only [h1, h2, h3, decide_true, if_true, List.length_cons]
        omega
      · have h3 : min x (k - 1 - x) ≤ a := by omega
        simp only [h1, h2, h3, decide_true, decide_false, if_true, List.length_cons]
        simp only [Bool.false_eq_true, if_false]
        omega
      · have h3 : min x (k - 1 - x) ≤ a := by omega
        simp only [h1, h2, h3, decide_true, decide_false, if_true, List.length_cons]
        simp only [Bool.false_eq_true, if_false]
        omega
      · have h3 : ¬ min x (k - 1 - x) ≤ a := by omega
        simp only [h1, h2, h3, decide_false]
        simp only [Bool.false_eq_true, if_false]
        exact ih
  have c1 : ∀ n, ((List.range n).filter fun j => decide (j ≤ a)).length ≤ a + 1 := by
    intro n
    induction n with
    | zero => simp
    | succ n ih =>
      rw [List.range_succ, List.filter_append, List.length_append]
      by_cases h : n ≤ a
      · have h1 := List.length_filter_le (fun j => decide (j ≤ a)) (List.range n)
        rw [List.length_range] at h1
        have h2 := List.length_filter_le (fun j => decide (j ≤ a)) [n]
        simp only [List.length_cons, List.length_nil] at h2
        omega
      · have e : ([n].filter fun j => decide (j ≤ a)) = [] := by simp; omega
        rw [e]
        simpa using ih
  have c2' : ∀ n, n ≤ k → ((List.range n).filter fun j => decide (k - 1 - j ≤ a)).length ≤ n - (k - 1 - a) := by
    intro n
    induction n with
    | zero => simp
    | succ n ih =>
      intro hn
      have ih := ih (by omega)
      rw [List.range_succ, List.filter_append, List.length_append]
      by_cases h : k - 1 - n ≤ a
      · have h2 := List.length_filter_le (fun j => decide (k - 1 - j ≤ a)) [n]
        simp only [List.length_cons, List.length_nil] at h2
        omega
      · have e : ([n].filter fun j => decide (k - 1 - j ≤ a)) = [] := by simp; omega
        rw [e]
        simp only [List.length_nil]
        omega
  have c2 := c2' k (Nat.le_refl _)
  have := c1 k
  omega
theorem sptOf_wb (l : Nat) (b : Blk) : (sptOf (2 ^ l - 1) b).length ≤ 2 ^ l * wb b := by
  have hp := pow_pos l
  cases b with
  | n k =>
    have h := filt2 k (2 ^ l - 1) (2 ^ l - 1)
    show ((List.range k).filter fun j => decide (min j (k - 1 - j) ≤ 2 ^ l - 1)).length ≤ 2 ^ l * 2
    omega
  | up =>
    show (List.range (2 ^ l - 1 + 1)).length ≤ 2 ^ l * 1
    rw [List.length_range]
    omega
  | dn =>
    show (List.range (2 ^ l - 1 + 1)).length ≤ 2 ^ l * 1
    rw [List.length_range]
    omega
theorem spt_wt (l : Nat) (f : Ln) : (spt (2 ^ l - 1) f).length ≤ 2 ^ l * wt f := by
  have key : ∀ L : List (Nat × Blk), (L.flatMap fun y => (sptOf (2 ^ l - 1) y.2).map fun j => (y.1, j)).length ≤ 2 ^ l * wt (L.map (·.2)) := by
    intro L
    induction L with
    | nil => simp
    | cons y L ih =>
      have h := sptOf_wb l y.2
      rw [List.flatMap_cons, List.length_append, List.length_map, List.map_cons, wt_cons, Nat.mul_add]
      omega
  have h := key (idx f)
  have e : (idx f).map (·.2) = f := by
    unfold idx
    rw [List.map_snd_zip]
    simp
  rw [e] at h
  exact h
theorem parts_len (l : Nat) (f : Ln) : (partsB f l).length ≤ 2 ^ l * wt f := by
  have h1 := ded_len ((spt (2 ^ l - 1) f).map (lhv l f))
  rw [List.length_map] at h1
  exact Nat.le_trans h1 (spt_wt l f)
theorem halvL_len {l m c : Nat} {fs : List Ln} (h : ∀ f ∈ fs, Fm m c f) : (halvL l fs).length ≤ fs.length * (2 * (2 ^ l * m)) := by
  have h1 := flat_len (fun f => (partsB f l).flatMap fun p => [p.1, p.2]) (2 * (2 ^ l * m)) (ded fs) (fun f hf => by
    have h2 := flat_len (fun p : Ln × Ln => [p.1, p.2]) 2 (partsB f l) (fun _ _ => Nat.le_refl _)
    have h3 := parts_len l f
    have h4 : 2 ^ l * wt f ≤ 2 ^ l * m := Nat.mul_le_mul (Nat.le_refl _) (h f (mem_ded.mp hf)).2.1
    omega)
  exact Nat.le_trans h1 (Nat.mul_le_mul (ded_len fs) (Nat.le_refl _))
theorem fm_lawLev {l m c : Nat} {fs : List Ln} (hl : l ≤ 5) (h : ∀ f ∈ fs, Fm m c f) : ∀ g ∈ lawLev l fs, Fm (m + 1) c g := by
  intro g hg
  obtain ⟨f, hf, q, hq, e⟩ := lawLev_of hg
  obtain ⟨b, hb, _⟩ := mem_spt hq
  obtain ⟨h1, h2, h3⟩ := h f hf
  by_cases z : l = 0
  · subst z
    rw [nrm_zero, nrm_zero] at e
    have e : g = [] := e.elim id id
    subst e
    exact ⟨by simp, by simp [wt_nil], fun k hk => absurd hk (by simp)⟩
  · have h2 : 2 ^ l ≤ 2 ^ 5 := Nat.pow_le_pow_right (by decide) hl
    have e5 : 2 ^ 5 = 32 := rfl
    have key : ∀ a : Ln, a.length ≤ f.length → wt a ≤ wt f + 1 → g = nrm l a → Fm (m + 1) c g := fun a ha hw e => by
      rw [nrm_form (by omega)] at e
      subst e
      refine ⟨Nat.le_trans (len_form _ _) (by omega), Nat.le_trans (wt_form _ _) (by omega), fun k hk => ?_⟩
      have := num_form hk
      omega
    rcases e with e | e
    · exact key _ (len_lf hb _) (wt_lf hb _) e
    · exact key _ (len_rg hb _) (wt_rg hb _) e
/-- the lines at each turn -/
def LW (r : Nat) (fs : List Ln) : Nat → List Ln
  | 0 => fs
  | i + 1 => lawLev (r - 1 - i) (LW r fs i)
structure LvL (r m c : Nat) (fs : List Ln) (i : Nat) : Prop where
  fm : ∀ f ∈ LW r fs i, Fm (m + i) c f
  ok : okL (LW r fs i).length (m + i) (r - i)
theorem okL_lev {l m c : Nat} {fs : List Ln} (h : ∀ f ∈ fs, Fm m c f) (ok : okL fs.length m (l + 1)) : okL (lawLev l fs).length (m + 1) l ∧ (halvL l fs).length ≤ 16000000 ∧ ∀ f ∈ fs, (partsB f l).length ≤ 62 := by
  obtain ⟨h1, h2, h3⟩ := ok
  have hh := halvL_len (l := l) h
  refine ⟨okL_mono (Nat.le_trans (ded_len _) hh) (Nat.le_refl _) h3, Nat.le_trans hh h3.n, fun f hf => ?_⟩
  exact Nat.le_trans (parts_len l f) (Nat.le_trans (Nat.mul_le_mul (Nat.le_refl _) (h f hf).2.1) h2)
theorem LW_ok {r m c : Nat} {fs : List Ln} (hr : r ≤ 5) (h : ∀ f ∈ fs, Fm m c f) (ok : okL fs.length m r) : ∀ i, i ≤ r → LvL r m c fs i
  | 0, _ => ⟨h, ok⟩
  | i + 1, hi => by
    have ih := LW_ok hr h ok i (by omega)
    have e : r - i = (r - 1 - i) + 1 := by omega
    have ok' := ih.ok
    rw [e] at ok'
    have hl := okL_lev ih.fm ok'
    refine ⟨fun f hf => fm_lawLev (by omega) ih.fm f hf, ?_⟩
    have e2 : r - (i + 1) = r - 1 - i := by omega
    rw [e2]
    exact hl.1
theorem numL_lt : ∀ (l : Nat) (fs : List Ln) (f : Ln), numL l fs f ≤ fs.length
  | 0, _, _ => Nat.zero_le _
  | l + 1, fs, f => by
    refine Nat.le_trans (ixOf_le _ _) (Nat.le_trans (ded_len _) ?_)
    rw [List.length_map]
    exact ded_len _
end K74
/-! Branches that meet again. -/
namespace Ly
open PySem PySem.Spec PyProof.Rows L2
section
variable {X : Cx} {xs : List Addr} {P0 H0 : Hp} {ow : List Addr} {σ : L2.St} {P H : Hp} {ss ss1 : List Sl} {D D' : Ends} {rest sts : List Stmt} {pos : Pos}
theorem XS.mono (h : XS X sts D σ H) (n : ∀ σ H, D.nx σ H → D'.nx σ H) (r : ∀ v H, D.rt v H → D'.rt v H) (b : ∀ σ H, D.bk σ H → D'.bk σ H) (c : ∀ σ H, D.ct σ H → D'.ct σ H) : XS X sts D' σ H :=
  ⟨fun D' σ H => ∃ D : Ends, XS X sts D σ H ∧ (∀ σ H, D.nx σ H → D'.nx σ H) ∧ (∀ v H, D.rt v H → D'.rt v H) ∧ (∀ σ H, D.bk σ H → D'.bk σ H) ∧ (∀ σ H, D.ct σ H → D'.ct σ H), ⟨fun pins s σ H D' I ⟨D, h, n, r, b, c⟩ => thn (Ly.xs.run pins s σ H D I h) fun f s1 q => by
    cases f with
    | next =>
      obtain ⟨σ', H', I', q⟩ := q
      exact ⟨σ', H', I', n _ _ q⟩
    | ret v =>
      obtain ⟨v, σ', H', I', rv, q⟩ := q
      exact ⟨v, σ', H', I', rv, r _ _ q⟩
    | brk =>
      obtain ⟨σ', H', I', q⟩ := q
      exact ⟨σ', H', I', b _ _ q⟩
    | cont =>
      obtain ⟨σ', H', I', q⟩ := q
      exact ⟨σ', H', I', c _ _ q⟩⟩, D, h, n, r, b, c⟩
/-- if, the two ways meeting in ssJ -/
theorem w_ifJ (ssJ : List Sl) {c : Expr} {a b : List Stmt} {q : Bool} (S : S8 xs P0 H0 ow σ P H ss) (h : JT (C1 X) c ss q ss1) (h1 : q = true → ∀ P H, S8 xs P0 H0 ow σ P H ss1 → XS X a { D with nx := At8 xs P0 H0 ssJ } σ H)
    (h2 : q = false → ∀ P H, S8 xs P0 H0 ow σ P H ss1 → XS X b { D with nx := At8 xs P0 H0 ssJ } σ H) (k : ∀ ow σ P H, S8 xs P0 H0 ow σ P H ssJ → XS X rest D σ H) : XS X (.If c a b pos :: rest) D σ H :=
  w_if S h (fun e P H S => (h1 e P H S).mono (fun σ H ⟨ow, P, S⟩ => k ow σ P H S) (fun _ _ q => q) (fun _ _ q => q) (fun _ _ q => q))
    (fun e P H S => (h2 e P H S).mono (fun σ H ⟨ow, P, S⟩ => k ow σ P H S) (fun _ _ q => q) (fun _ _ q => q) (fun _ _ q => q))
end
end Ly
/-! _law_find_types -/
namespace K74
open PySem PySem.Spec PyProof.Rows L2 Ly M74
abbrev pBLs (lines : List Ln) : Pr := pL (lines.map fun f => pL (f.map pK))
def pvl (K : PySem.W.Frag) (l : Nat) (f : Ln) : Pr := pL ((partsB f l).map (pHv K))
abbrev pNd (fs : List Ln) : Pr := pL (fs.map fun f => pNK (nf f))
def levT (w : World) (K : PySem.W.Frag) (r : Nat) (fs : List Ln) (n : Nat) : List Pr := (List.range n).map fun j => pD w (dcE (ded (LW r fs j)) (pvl K (r - 1 - j)))
theorem levT_succ (w : World) (K : PySem.W.Frag) (r : Nat) (fs : List Ln) (n : Nat) : levT w K r fs (n + 1) = levT w K r fs n ++ [pD w (dcE (ded (LW r fs n)) (pvl K (r - 1 - n)))] := by
  unfold levT
  rw [List.range_succ, List.map_append]
  rfl
/-- the lines that have types at turn t -/
def usT (r : Nat) (fs : List Ln) (t : Nat) : List Ln := if t = 0 then [[]] else ded (LW r fs (r - t))
theorem at_dcS (fs : List Ln) (v : Ln → Pr) (f : Ln) : (atE (dcE fs v) (nf f)).isSome = decide (f ∈ fs) := by
  by_cases h : f ∈ fs
  · rw [at_dc h, decide_eq_true h]; rfl
  · rw [at_dc_no h, decide_eq_false h]; rfl
/-- all that a call of _law_find_types needs -/
def preFT (lines : List Ln) (r : Nat) : Prop := r ≤ 5 ∧ lines.length ≤ 100000 ∧ (∀ f ∈ lines, f.length ≤ 50) ∧ ∃ m c, c ≤ 50 ∧ (∀ f ∈ lines, Fm m c (nrm r f)) ∧ okL lines.length m r
theorem ded_snoc {α : Type} [DecidableEq α] (l : List α) (x : α) : ded (l ++ [x]) = addD (ded l) x := by
  unfold ded
  rw [List.foldl_append]
  rfl
theorem halvL_snoc {l : Nat} {pre : List Ln} {f : Ln} (h : f ∉ ded pre) : ded (halvL l (pre ++ [f])) = ((partsB f l).flatMap fun p => [p.1, p.2]).foldl addD (ded (halvL l pre)) := by
  have e : ded (pre ++ [f]) = ded pre ++ [f] := by
    rw [ded_snoc]
    unfold addD
    rw [if_neg h]
  unfold halvL
  rw [e, List.flatMap_append]
  unfold ded
  rw [List.foldl_append]
  simp
theorem halvL_same {l : Nat} {pre : List Ln} {f : Ln} (h : f ∈ ded pre) : ded (pre ++ [f]) = ded pre ∧ halvL l (pre ++ [f]) = halvL l pre := by
  have e : ded (pre ++ [f]) = ded pre := by
    rw [ded_snoc]
    unfold addD
    rw [if_pos h]
  exact ⟨e, by unfold halvL; rw [e]⟩
section
variable {Pg : Program} {w : World} {K : PySem.W.Frag} {mg : Str → Option Value} {base : Heap}
abbrev sFT : Stmt := top 39
abbrev nFT : List Str := ["lines", "rounds", "need", "levels", "turn", "found", "lower", "line", "pair", "types", "numbers", "upper", "pairs", "key", "p"]
theorem scFT : FnScope nFT ["lines", "rounds"] (defScope sFT) := ⟨rfl, rfl, rfl, by decide +kernel, rfl, by decide +kernel, by decide +kernel⟩
abbrev spFT : Sp := spF (fun a : List Ln × Nat => [pBLs a.1, pI a.2]) (fun a => preFT a.1 a.2) (fun a => pL (a.1.map fun f => pI (typL a.2 a.1 f : Nat)))
theorem foldl_add_le {α : Type} [DecidableEq α] : ∀ (us acc : List α), (us.foldl addD acc).length ≤ acc.length + us.length
  | [], acc => by simp
  | u :: us, acc => by
    have h1 := foldl_add_le us (addD acc u)
    have h2 : (addD acc u).length ≤ acc.length + 1 := by unfold addD; split <;> simp
    rw [List.foldl_cons, List.length_cons]
    omega
/-- the first loop's inner one -/
theorem ft_loop1 {f : Addr} {cdv : Value} {A : Around} {outer : List Env} {s : Shared} {H0 : Hp} {E : XK} (hr : Room 2 (A.deeper (envOfC "_law_find_types" (defScope sFT) s.heap.objs.size f cdv)))
    (cB : ∀ A : Around, Room 2 A → Cal Pg w K mg base A "_law_parts_below" (spPB K))
    {P0 H1 : Hp} {ow : List Addr} {σ : L2.St} {Px H : Hp} {r t l m c : Nat} {fs : List Ln} {Ra Rb : Pr} {D : Ends} {rest : List Stmt} (hl : l ≤ 4) (hlt : (r : Int) - t = ((l + 1 : Nat) : Int)) (hc : c ≤ 50) (hf : ∀ g ∈ fs, Fm m c g) (hfl : fs.length ≤ 16000000) (hhl : (halvL l fs).length ≤ 16000000)
    (S : S8 [] P0 H1 ow σ Px H [.pr Ra, .pr (pI r), .pr (pNd fs), .pr Rb, .pr (pI t), .ow (oD w []), .ow (oD w []), .un, .un, .un, .un, .un, .un, .un, .un])
    (k : ∀ ow σ Px H, S8 [] P0 H1 ow σ Px H [.pr Ra, .pr (pI r), .pr (pNd fs), .pr Rb, .pr (pI t), .ow (oD w (dcE (ded fs) (pvl K l))), .ow (oD w (dcE (lawLev l fs) fun _ => pI 0)), .un, .un, .un, .un, .un, .un, .un, .un] → XS (cxOf CX0 Pg w K mg base nFT "_law_find_types" (defScope sFT) f cdv A outer s H0 E).nox rest D σ H) :
    XS (cxOf CX0 Pg w K mg base nFT "_law_find_types" (defScope sFT) f cdv A outer s H0 E).nox ((match defBody sFT with | [_, _, .For _ _ (_ :: _ :: st :: _) _ _, _, _, _, _] => st | _ => .Pass ⟨0, 0, 0, 0⟩) :: rest) D σ H := by
  refine w_for (ys := fs) (r := fun f => pNK (nf f)) S (ji_list (K := K) (je_v 2 fun _ => pv 2)) (fun y => jg_name 7 fun _ => pg_name scFT.nd rfl (by first | exact .inl rfl | exact .inr rfl))
    (fun pre => [.pr Ra, .pr (pI r), .pr (pNd fs), .pr Rb, .pr (pI t), .ow (oD w (dcE (ded pre) (pvl K l))), .ow (oD w (dcE (ded (halvL l pre)) fun _ => pI 0)), .un, .un, .un, .un, .un, .un, .un, .un]) (Wk.refl _) (by simp) ?_ k
  intro xs' P0' H0' _ pre g post hys ow σ Px H S
  have hg : Fm m c g := hf g (by rw [hys]; simp)
  have hpl : pre.length < 16000000 := by
    have : fs.length = pre.length + (post.length + 1) := by rw [hys, List.length_append, List.length_cons]
    omega
  have hdl : (ded pre).length < 16000000 := Nat.lt_of_le_of_lt (ded_len _) hpl
  have hsz : ∀ {n : Nat}, n ≤ 16000000 → n < sizeLine := fun h => Nat.lt_of_le_of_lt h (by rw [sizeLine_eq]; decide)
  refine w_if S (q := !decide (g ∈ ded pre)) (JT.is (jt_inO (w := w) 5 (neg := true) rfl (fun _ => pv 5) (je_v 7 fun _ => pv 7) rfl (nf_depth g) (fun _ => room16 hr) rfl) (congrArg not (at_dcS (ded pre) (pvl K l) g))) (fun h P H S => ?_) (fun h P H S => w_nil (w_nil ?_))
  · have hn : g ∉ ded pre := by simpa using h
    have eput : putE (dcE (ded pre) (pvl K l)) (nf g) (pvl K l g) = dcE (ded (pre ++ [g])) (pvl K l) := by rw [put_dc, ded_snoc]
    refine w_setD (w := w) 5 (R := pvl K l g) S (je_call (fun _ => cB _ hr) (g, l) (ja_cons (JE.to (je_v 7 fun _ => pv 7) fun _ _ => nf_pbs (by have := hg.1; omega)) (ja_cons (JE.is (je_sub (je_v 1 fun _ => pv 1) (je_v 4 fun _ => pv 4)) (congrArg (fun z => pI z) hlt)) ja_nil)) ⟨Nat.le_trans hg.1 hc, hl, hg.2.2⟩)
      (fun _ => pv 5) (je_v 7 fun _ => pv 7) rfl (nf_depth g) (by rw [dc_len]; exact hsz (by omega)) (room16 hr) (fun ow P H S => ?_)
    rw [eput] at S
    have hm : g ∈ ded (pre ++ [g]) := mem_ded.mpr (by simp)
    have hbl : (ded (halvL l pre)).length + ((partsB g l).flatMap fun p => [p.1, p.2]).length ≤ 16000000 := by
      have h1 := ded_len (halvL l pre)
      have e : ded (pre ++ [g]) = ded pre ++ [g] := by rw [ded_snoc]; unfold addD; rw [if_neg hn]
      have h2 : (halvL l (pre ++ [g])).length = (halvL l pre).length + ((partsB g l).flatMap fun p => [p.1, p.2]).length := by
        unfold halvL
        rw [e, List.flatMap_append, List.length_append]
        simp
      have h3 : (halvL l (pre ++ [g])).length ≤ (halvL l fs).length := by
        obtain ⟨u, hu⟩ := fold_ext post (ded (pre ++ [g]))
        have e4 : ded fs = ded (pre ++ [g]) ++ u := by
          rw [← hu, hys]
          unfold ded
          rw [show pre ++ g :: post = (pre ++ [g]) ++ post by simp, List.foldl_append]
        unfold halvL
        rw [e4, List.flatMap_append, List.length_append]
        omega
      omega
    refine w_for (ys := partsB g l) (r := pHv K) S (ji_list (K := K) (je_getO (w := w) (R := pvl K l g) 5 (fun _ => pv 5) (je_v 7 fun _ => pv 7) rfl rfl (at_dc hm) (nf_depth g) (fun _ => room16 hr) (fun _ _ => rfl))) (fun y => jg_name 8 fun _ => pg_name scFT.nd rfl (by first | exact .inl rfl | exact .inr rfl))
      (fun pr2 => [.pr Ra, .pr (pI r), .pr (pNd fs), .pr Rb, .pr (pI t), .ow (oD w (dcE (ded (pre ++ [g])) (pvl K l))), .ow (oD w (dcE ((pr2.flatMap fun p => [p.1, p.2]).foldl addD (ded (halvL l pre))) fun _ => pI 0)), .un, .un, .un, .un, .un, .un, .un, .un]) (.keep (.keep (.keep (.keep (.keep (.keep (.keep (.drop (Wk.refl _))))))))) (by simp) ?_ ?_
    · intro xs2 P2 H2 _ pr2 y post2 hys2 ow σ Px H S
      have hl2 : (pr2.flatMap fun p : Ln × Ln => [p.1, p.2]).length + 2 ≤ ((partsB g l).flatMap fun p => [p.1, p.2]).length := by
        rw [hys2, List.flatMap_append, List.length_append, List.flatMap_cons, List.length_append]
        simp only [List.length_cons, List.length_nil]
        omega
      have hcur := foldl_add_le (pr2.flatMap fun p : Ln × Ln => [p.1, p.2]) (ded (halvL l pre))
      generalize hcu : (pr2.flatMap fun p : Ln × Ln => [p.1, p.2]).foldl addD (ded (halvL l pre)) = cur at S hcur
      have enx : ((pr2 ++ [y]).flatMap fun p : Ln × Ln => [p.1, p.2]).foldl addD (ded (halvL l pre)) = addD (addD cur y.1) y.2 := by
        rw [List.flatMap_append, List.foldl_append, hcu]
        rfl
      have hc2 : (addD cur y.1).length ≤ cur.length + 1 := foldl_add_le [y.1] cur
      refine w_setD (w := w) 6 (R := pI 0) S je_i (fun _ => pv 6) (JE.to (je_ixT (K := K) (j := 0) (je_v 8 fun _ => pv 8) je_i (fun _ _ => rfl) rfl rfl) fun _ _ => pbs_nf) rfl (nf_depth y.1) (by rw [dc_len]; exact hsz (by omega)) (room16 hr) (fun ow P H S => ?_)
      rw [put_dc (v := fun _ => pI 0)] at S
      refine w_setD (w := w) 6 (R := pI 0) S je_i (fun _ => pv 6) (JE.to (je_ixT (K := K) (j := 1) (je_v 8 fun _ => pv 8) je_i (fun _ _ => rfl) rfl rfl) fun _ _ => pbs_nf) rfl (nf_depth y.2) (by rw [dc_len]; exact hsz (by omega)) (room16 hr) (fun ow P H S => w_nil ?_)
      rw [put_dc (v := fun _ => pI 0)] at S
      rw [enx]
      exact at8 S (.keep (.keep (.keep (.keep (.keep (.keep (.keep (.keep (.drop (Wk.refl _))))))))))
    · intro ow σ Px H S
      refine w_nil (w_nil ?_)
      rw [halvL_snoc hn]
      exact at8 S (Wk.refl _)
  · have hn : g ∈ ded pre := by simpa using h
    have e := halvL_same (l := l) hn
    rw [e.1, e.2]
    exact at8 S (.keep (.keep (.keep (.keep (.keep (.keep (.keep (.drop (Wk.refl _)))))))))
end
end K74
/-! _law_find_types: the numbers, the whole -/
namespace K74
open PySem PySem.Spec PyProof.Rows L2 Ly M74
theorem numL_eq (l : Nat) (fs : List Ln) : (fun f => pI (numL (l + 1) fs f : Nat)) = fun f => pI (ixOf (ded ((ded fs).map (keyL l (numL l (lawLev l fs))))) (keyL l (numL l (lawLev l fs)) f) : Nat) := rfl
section
variable {Pg : Program} {w : World} {K : PySem.W.Frag} {mg : Str → Option Value} {base : Heap}
theorem ft_loop2 (T : Cst K mg) {f : Addr} {cdv : Value} {A : Around} {outer : List Env} {s : Shared} {H0 : Hp} {E : XK} (hr : Room 2 (A.deeper (envOfC "_law_find_types" (defScope sFT) s.heap.objs.size f cdv)))
    {P0 H1 : Hp} {ow : List Addr} {σ : L2.St} {Px H : Hp} {l : Nat} {fs us : List Ln} {g : Ln → Nat} {Ra Rb Rc Rd Re : Pr} {D : Ends} {rest : List Stmt} (hn : fs.Nodup) (hfl : fs.length ≤ 16000000) (hp62 : ∀ f ∈ fs, (partsB f l).length ≤ 62)
    (hmem : ∀ f ∈ fs, ∀ p ∈ partsB f l, p.1 ∈ us ∧ p.2 ∈ us) (hg : ∀ f, g f ≤ 16000000)
    (S : S8 [] P0 H1 ow σ Px H [.pr Ra, .pr Rb, .pr Rc, .pr Rd, .pr Re, .pr (pD w (dcE fs (pvl K l))), .un, .un, .un, .pr (pD w (dcE us fun f => pI (g f))), .ow (oD w []), .ow (oD w []), .un, .un, .un])
    (k : ∀ ow σ Px H, S8 [] P0 H1 ow σ Px H [.pr Ra, .pr Rb, .pr Rc, .pr Rd, .pr Re, .pr (pD w (dcE fs (pvl K l))), .un, .un, .un, .pr (pD w (dcE us fun f => pI (g f))), .ow (oD w (sE (ded (fs.map (keyL l g))))), .ow (oD w (dcE fs fun f => pI (ixOf (ded (fs.map (keyL l g))) (keyL l g f) : Nat))), .un, .un, .un] → XS (cxOf CX0 Pg w K mg base nFT "_law_find_types" (defScope sFT) f cdv A outer s H0 E).nox rest D σ H) :
    XS (cxOf CX0 Pg w K mg base nFT "_law_find_types" (defScope sFT) f cdv A outer s H0 E).nox ((match defBody sFT with | [_, _, _, _, _, .For _ _ (_ :: _ :: _ :: st :: _) _ _, _] => st | _ => .Pass ⟨0, 0, 0, 0⟩) :: rest) D σ H := by
  refine w_for S (JI.is (ji_keysD (w := w) (je_v 5 fun _ => pv 5)) (keys_dc _ _)) (fun y => jg_name 7 fun _ => pg_name scFT.nd rfl (by first | exact .inl rfl | exact .inr rfl))
    (fun pre => [.pr Ra, .pr Rb, .pr Rc, .pr Rd, .pr Re, .pr (pD w (dcE fs (pvl K l))), .un, .un, .un, .pr (pD w (dcE us fun f => pI (g f))), .ow (oD w (sE (ded (pre.map (keyL l g))))), .ow (oD w (dcE pre fun f => pI (ixOf (ded (fs.map (keyL l g))) (keyL l g f) : Nat))), .un, .un, .un]) (Wk.refl _) (by simp) ?_ k
  intro xs' P0' H0' _ pre q post hys ow σ Px H S
  have hq : q ∈ fs := by rw [hys]; simp
  have hnin : q ∉ pre := fun z => by
    rw [hys] at hn
    exact (List.nodup_append.mp hn).2.2 q z q (by simp) rfl
  have hpl : pre.length < 16000000 := by
    have : fs.length = pre.length + (post.length + 1) := by rw [hys, List.length_append, List.length_cons]
    omega
  have hsz : ∀ {n : Nat}, n < 16000000 → n < sizeLine := fun h => Nat.lt_of_lt_of_le h (by rw [sizeLine_eq]; decide)
  have e1 : ((cz ((partsB q l).map fun p => (g p.1, g p.2))).map pPr) = (kS (keyL l g q)).map pNK := by
    unfold keyL
    rw [List.map_map]
    rfl
  refine w_asgMP 12 (R := pL (((partsB q l).map fun p => (g p.1, g p.2)).map (pP2 K))) S (JM.is (jm_lc1 (α := Ln × Ln) (ys := partsB q l) (r := pHv K) [("p", 14)] [.pr Ra, .pr Rb, .pr Rc, .pr Rd, .pr Re, .pr (pD w (dcE fs (pvl K l))), .un, .pr (pNK (nf q)), .un, .pr (pD w (dcE us fun f => pI (g f))), .un, .un, .un, .un, .un] (fun _ => true) (fun p => pP2 K (g p.1, g p.2))
    (ji_list (K := K) (je_getD (w := w) (R := pvl K l q) (je_v 5 fun _ => pv 5) (je_v 7 fun _ => pv 7) (at_dc hq) (nf_depth q) (fun _ => room16 hr) (fun _ _ => rfl))) (fun _ => blkOk_by (N := nFT) (sc := defScope sFT) (by decide +kernel)) (.keep (.keep (.keep (.keep (.keep (.keep (.keep (.keep (.keep (.keep (.drop (.drop (Wk.refl _))))))))))))) rfl
    (fun y => jg_name 14 fun _ => pg_name scFT.nd rfl (by first | exact .inl rfl | exact .inr rfl)) (by simp) (by simp) (fun _ _ => jts_nil)
    (fun p hp _ => je_tup K (ja_cons (je_getD (w := w) (R := pI (g p.1)) (je_v 9 fun _ => pv 9) (JE.to (je_ixT (K := K) (j := 0) (je_v 14 fun _ => pv 14) je_i (fun _ _ => rfl) rfl rfl) fun _ _ => pbs_nf) (at_dc (hmem q hq p hp).1) (nf_depth p.1) (fun _ => room16 hr) (fun _ _ => rfl)) (ja_cons (je_getD (w := w) (R := pI (g p.2)) (je_v 9 fun _ => pv 9) (JE.to (je_ixT (K := K) (j := 1) (je_v 14 fun _ => pv 14) je_i (fun _ _ => rfl) rfl rfl) fun _ _ => pbs_nf) (at_dc (hmem q hq p hp).2) (nf_depth p.2) (fun _ => room16 hr) (fun _ _ => rfl)) ja_nil)))
    (le_line (Nat.le_trans (hp62 q hq) (by decide))) (fun _ => scFT.nd)) (by rw [List.filter_eq_self.mpr (fun _ _ => rfl), List.map_map]; rfl)) oL_pL (fun ow σ Px H S => ?_) scFT.nd
  refine w_asg 13 (R := pNK (.tup (kS (keyL l g q)))) S (JE.to (JE.is (je_tupleL (K := K) (JF.je (jf_sortedZ (K := K) (Pg := Pg) (w := w) 16000001 (jn_setL (K := K) (Pg := Pg) (w := w) (je_v 12 fun _ => pv 12) (by rw [List.length_map]; exact Nat.lt_of_le_of_lt (hp62 q hq) (by decide)) (fun _ => room64 hr) (fun _ => T.bt.set))
    (fun z hz => by
      obtain ⟨p, _, rfl⟩ := List.mem_map.mp hz
      have h1 := hg p.1
      have h2 := hg p.2
      dsimp only
      omega) (fun _ => T.bt.sorted))) ?_ (fun _ => T.bt.tuple)) (congrArg (pT K) e1)) fun _ _ => pT_NK) (fun ow σ Px H S => ?_) scFT.nd
  · rw [List.length_map]
    refine le_line (Nat.le_trans (cz_len _) ?_)
    rw [List.length_map]
    exact Nat.le_trans (hp62 q hq) (by decide)
  have hdl : (ded (pre.map (keyL l g))).length ≤ pre.length := Nat.le_trans (ded_len _) (by rw [List.length_map]; exact Nat.le_refl _)
  have hded : ded ((pre ++ [q]).map (keyL l g)) = addD (ded (pre.map (keyL l g))) (keyL l g q) := by
    rw [List.map_append]
    exact ded_snoc _ _
  have hix : ixOf (ded (fs.map (keyL l g))) (keyL l g q) = ixOf (addD (ded (pre.map (keyL l g))) (keyL l g q)) (keyL l g q) := by
    have e : ded (fs.map (keyL l g)) = (post.map (keyL l g)).foldl addD (ded ((pre ++ [q]).map (keyL l g))) := by
      have e2 : fs = (pre ++ [q]) ++ post := by rw [hys]; simp
      conv => lhs; rw [e2]
      unfold ded
      rw [List.map_append, List.foldl_append]
    rw [e, hded]
    obtain ⟨t, et⟩ := fold_ext (post.map (keyL l g)) (addD (ded (pre.map (keyL l g))) (keyL l g q))
    rw [et, ixOf_app (mem_addD _ _)]
  have hded' := hded
  generalize ded (pre.map (keyL l g)) = acc at S hdl hded hix
  refine w_ifJ [.pr Ra, .pr Rb, .pr Rc, .pr Rd, .pr Re, .pr (pD w (dcE fs (pvl K l))), .un, .pr (pNK (nf q)), .un, .pr (pD w (dcE us fun f => pI (g f))), .ow (oD w (sE (addD acc (keyL l g q)))), .ow (oD w (dcE pre fun f => pI (ixOf (ded (fs.map (keyL l g))) (keyL l g f) : Nat))), .un, .pr (pNK (.tup (kS (keyL l g q)))), .un] S
    (jt_inO (w := w) 10 (neg := true) rfl (fun _ => pv 10) (je_v 13 fun _ => pv 13) rfl (kS_depth _) (fun _ => room16 hr) rfl) (fun h P H S => ?_) (fun h P H S => w_nil ?_) (fun ow σ P H S => ?_)
  · have h : atE (sE acc) (.tup (kS (keyL l g q))) = none := by
      cases e : atE (sE acc) (.tup (kS (keyL l g q))) with
      | none => rfl
      | some _ => rw [e] at h; exact absurd h (by simp)
    refine w_setD (w := w) 10 (R := pI ((sE acc).length : Int)) S (je_lenDO (w := w) 10 (fun _ => pv 10) rfl fun _ => T.bt.len) (fun _ => pv 10) (je_v 13 fun _ => pv 13) rfl (kS_depth _) (by rw [sE_len]; exact hsz (by omega)) (room16 hr) (fun ow P H S => w_nil ?_)
    have hset := sE_put acc (keyL l g q)
    rw [h] at hset
    have e : putE (sE acc) (.tup (kS (keyL l g q))) (pI ((sE acc).length : Int)) = sE (addD acc (keyL l g q)) := by
      rw [← hset]
      unfold putE
      rw [h, sE_len]
      rfl
    rw [e] at S
    exact at8 S (.keep (.keep (.keep (.keep (.keep (.keep (.keep (.keep (.keep (.keep (.keep (.keep (.drop (.keep (Wk.refl _)))))))))))))))
  · have h : (atE (sE acc) (.tup (kS (keyL l g q)))).isSome = true := by
      cases e : atE (sE acc) (.tup (kS (keyL l g q))) with
      | none => rw [e] at h; exact absurd h (by decide)
      | some _ => rfl
    have hset := sE_put acc (keyL l g q)
    rw [h] at hset
    rw [← hset]
    exact at8 S (.keep (.keep (.keep (.keep (.keep (.keep (.keep (.keep (.keep (.keep (.keep (.keep (.drop (.keep (Wk.refl _)))))))))))))))
  · have hat : atE (sE (addD acc (keyL l g q))) (.tup (kS (keyL l g q))) = some (pI (ixOf (ded (fs.map (keyL l g))) (keyL l g q) : Nat)) := by
      rw [at_sEf, if_pos (mem_addD _ _), hix, Nat.zero_add]
    refine w_setD (w := w) 11 (R := pI (ixOf (ded (fs.map (keyL l g))) (keyL l g q) : Nat)) S (je_getO (w := w) 10 (fun _ => pv 10) (je_v 13 fun _ => pv 13) rfl rfl hat (kS_depth _) (fun _ => room16 hr) (fun _ _ => rfl)) (fun _ => pv 11) (je_v 7 fun _ => pv 7) rfl (nf_depth q) (by rw [dc_len]; exact hsz hpl) (room16 hr) (fun ow Px H S => w_nil ?_)
    have hput := put_dc (fs := pre) (v := fun f => pI (ixOf (ded (fs.map (keyL l g))) (keyL l g f) : Nat)) (f := q)
    have hadd : addD pre q = pre ++ [q] := by unfold addD; rw [if_neg hnin]
    rw [hadd] at hput
    rw [hput] at S
    rw [hded']
    rw [← hded', hded] 
    exact at8 S (.keep (.keep (.keep (.keep (.keep (.keep (.keep (.drop (.keep (.keep (.keep (.keep (.drop (.drop (Wk.refl _)))))))))))))))
theorem LW_zero (r : Nat) (fs : List Ln) (hr : 0 < r) : ∀ f ∈ LW r fs r, f = [] := by
  obtain ⟨n, rfl⟩ : ∃ n, r = n + 1 := ⟨r - 1, by omega⟩
  intro f hf
  have e : n + 1 - 1 - n = 0 := by omega
  have hf : f ∈ lawLev (n + 1 - 1 - n) (LW (n + 1) fs n) := hf
  rw [e] at hf
  obtain ⟨_, _, _, _, h⟩ := lawLev_of hf
  exact h.elim id id
theorem ok_FT (T : Cst K mg) {f : Addr} {fd : FuncData} (F : FnP K "_law_find_types" sFT f fd) (cB : ∀ A : Around, Room 2 A → Cal Pg w K mg base A "_law_parts_below" (spPB K)) (cN : ∀ A : Around, Room 2 A → Cal Pg w K mg base A "_law_normal" (spNm K)) :
    FnOk Pg w K mg base CX0 3 f fd ["lines", "rounds"] spFT := by
  refine fnF 2 F scFT (fun _ => rfl) fun cdv A outer s H0 Q E hr P0 a σ pre S kQ => ?_
  obtain ⟨lines, r⟩ := a
  obtain ⟨hr5, hll, hl50, m, c, hc, hfm, hok⟩ := pre
  dsimp only at hr5 hll hl50 hfm hok S kQ
  generalize hfs : lines.map (nrm r) = fs
  have hfsm : ∀ g ∈ fs, Fm m c g := fun g hg => by
    rw [← hfs] at hg
    obtain ⟨a, ha, rfl⟩ := List.mem_map.mp hg
    exact hfm a ha
  have hok : okL fs.length m r := by rw [← hfs, List.length_map]; exact hok
  have LV := LW_ok hr5 hfsm hok
  have enrm : ∀ (ss : List Sl) (p1 p2 p3 p4 : Pos) (y : Ln), y ∈ lines → JE (FB (C1 (cxOf CX0 Pg w K mg base nFT "_law_find_types" (defScope sFT) f cdv A outer s H0 E).nox) (defScope sFT)) (.Name "rounds" p1) ss (pI r) ss → True := fun _ _ _ _ _ _ _ _ => trivial
  refine w_asgMP 2 (R := pNd fs) S (JM.is (jm_lc1 (α := Ln) (ys := lines) (r := fun f => pL (f.map pK)) [("line", 7)] [.pr (pBLs lines), .pr (pI r), .un, .un, .un, .un, .un, .un, .un, .un, .un, .un, .un, .un, .un] (fun _ => true) (fun f => pNK (nf (nrm r f)))
    (ji_list (K := K) (je_v 0 fun _ => pv 0)) (fun _ => blkOk_by (N := nFT) (sc := defScope sFT) (by decide +kernel)) (Wk.refl _) rfl
    (fun y => jg_name 7 fun _ => pg_name scFT.nd rfl (by first | exact .inl rfl | exact .inr rfl)) (by simp) (by simp) (fun _ _ => jts_nil)
    (fun y hy _ => JE.to (je_call (Cal.blk fun _ => cN _ hr) (y, r) (ja_cons (je_v 7 fun _ => pv 7) (ja_cons (je_v 1 fun _ => pv 1) ja_nil)) ⟨Nat.le_trans (hl50 y hy) (by decide), hr5⟩) fun _ _ => pbs_nf)
    (le_line hll) (fun _ => scFT.nd)) (by rw [List.filter_eq_self.mpr (fun _ _ => rfl), ← hfs, List.map_map]; rfl)) oL_pL (fun ow σ P H S => ?_) scFT.nd
  refine w_asgF 3 S (jf_lst ja_nil) (fun ow σ P H S => ?_) scFT.nd
  refine w_for (ys := List.range r) (r := fun i : Nat => pI (i : Int)) S (JI.is (ji_range (je_v 1 fun _ => pv 1) (by omega) (by omega) (hm := fun _ => T.bt.range)) (by
      rw [show ((r : Nat) : Int).toNat = r by omega]
      exact List.map_congr_left fun i _ => congrArg (fun z => pI z) (by omega))) (fun y => jg_name 4 fun _ => pg_name scFT.nd rfl (by first | exact .inl rfl | exact .inr rfl))
    (fun pre => [.pr (pBLs lines), .pr (pI r), .pr (pNd (LW r fs pre.length)), .ow (oL (levT w K r fs pre.length)), .un, .un, .un, .un, .un, .un, .un, .un, .un, .un, .un]) (Wk.refl _) (by simp) ?_ ?_
  · intro xs' P0' H0' _ pre t post hys ow σ P H S
    obtain ⟨rfl, hi⟩ := range_ix hys
    have lv := LV pre.length (by omega)
    generalize hW : LW r fs pre.length = W at S lv
    have hWf : ∀ g ∈ W, Fm (m + pre.length) c g := by rw [← hW]; exact lv.fm
    generalize hl : r - 1 - pre.length = l
    have ho : okL W.length (m + pre.length) (l + 1) := by
      have := lv.ok
      rw [hW] at this
      have e : r - pre.length = l + 1 := by omega
      rw [e] at this
      exact this
    obtain ⟨hlev, hhalf, _⟩ := okL_lev hWf ho
    obtain ⟨v, fp, ev, okv, subv, S1, back⟩ := S.lend (i := 3) rfl (fun _ => rfl)
    refine w_asgN 5 S1 (jn_dict (w := w)) (fun ow σ P H S => ?_) scFT.nd
    refine w_asgN 6 S (jn_dict (w := w)) (fun ow σ P H S => ?_) scFT.nd
    refine ft_loop1 hr cB (m := m + pre.length) (c := c) (l := l) (t := pre.length) (by omega) (by omega) hc hWf ho.n hhalf S fun ow σ P H S => ?_
    obtain ⟨ow, P, S, _, _⟩ := S.stillD (w := w) (i := 5) rfl
    obtain ⟨ow, P, S, _, _⟩ := S.stillD (w := w) (i := 6) rfl
    obtain ⟨ow, S⟩ := back _ _ _ _ _ S rfl
    refine w_app 3 S (fun _ => pv 3) (je_v 5 fun _ => pv 5) rfl rfl (by unfold levT; rw [List.length_map, List.length_range]; exact Nat.lt_of_lt_of_le (show pre.length < 10 by omega) (by rw [sizeLine_eq]; decide)) (fun ow P H S => ?_)
    refine w_asg 2 (R := pNd (lawLev l W)) S (JE.is (JF.je (jf_listD (w := w) (je_v 6 fun _ => pv 6) (fun _ => T.bt.list))) (congrArg pL (keys_dc _ _))) (fun ow σ P H S => w_nil ?_) scFT.nd
    have eW : LW r fs (pre ++ [pre.length]).length = lawLev l W := by
      rw [List.length_append]
      show lawLev (r - 1 - pre.length) (LW r fs pre.length) = _
      rw [hl, hW]
    have eT : levT w K r fs (pre ++ [pre.length]).length = levT w K r fs pre.length ++ [pD w (dcE (ded W) (pvl K l))] := by
      rw [List.length_append]
      show levT w K r fs (pre.length + 1) = _
      rw [levT_succ, hW, hl]
    rw [eW, eT]
    exact at8 S (.keep (.keep (.keep (.keep (.drop (.drop (.drop (Wk.refl _))))))))
  · intro ow σ P H S
    rw [List.length_range] at S
    obtain ⟨ow, P, S, _, _⟩ := S.still (i := 3) rfl
    have S1 := S.pure (Wk.refl _) rfl
    have kR := fun ow2 σ2 P2 H2 ss2 (S2 : S8 [] P H ow2 σ2 P2 H2 ss2) => S.backP S2
    refine w_asgN 9 S (jn_dict (w := w)) (fun ow σ P H S => ?_) scFT.nd
    refine w_setD (w := w) 9 (ks := []) (R := pI 0) S je_i (fun _ => pv 9) (JE.to (je_tup K ja_nil) fun _ _ => pT_NK (ks := [])) rfl (by decide) (by rw [sizeLine_eq]; decide) (room16 hr) (fun ow P H S => ?_)
    obtain ⟨ow, P, S, _, _⟩ := S.stillD (w := w) (i := 9) rfl
    have hsr : (LW r fs r).length ≤ 16000000 := (LV r (Nat.le_refl _)).ok.n
    have e0 : (pD w (putE [] (.tup []) (pI 0))) = pD w (dcE (usT r fs 0) fun f => pI (numL 0 (LW r fs (r - 0)) f : Nat)) := rfl
    rw [e0] at S
    refine w_for (ys := List.range r) (r := fun i : Nat => pI (i : Int)) S (JI.is (ji_range (je_v 1 fun _ => pv 1) (by omega) (by omega) (hm := fun _ => T.bt.range)) (by
      rw [show ((r : Nat) : Int).toNat = r by omega]
      exact List.map_congr_left fun i _ => congrArg (fun z => pI z) (by omega))) (fun y => jg_name 4 fun _ => pg_name scFT.nd rfl (by first | exact .inl rfl | exact .inr rfl))
      (fun pre => [.pr (pBLs lines), .pr (pI r), .pr (pNd (LW r fs r)), .pr (pL (levT w K r fs r)), .un, .un, .un, .un, .un, .pr (pD w (dcE (usT r fs pre.length) fun f => pI (numL pre.length (LW r fs (r - pre.length)) f : Nat))), .un, .un, .un, .un, .un]) (Wk.refl _) (by simp) ?_ ?_
    · intro xs' P0' H0' _ pre t post hys ow σ P H S
      obtain ⟨rfl, hi⟩ := range_ix hys
      generalize ht : pre.length = t at S hi
      have lv := LV (r - 1 - t) (by omega)
      have eW : LW r fs (r - t) = lawLev t (LW r fs (r - 1 - t)) := by
        have e : r - t = (r - 1 - t) + 1 := by omega
        rw [e]
        show lawLev (r - 1 - (r - 1 - t)) _ = _
        have e2 : r - 1 - (r - 1 - t) = t := by omega
        rw [e2]
      have hlev0 : (lawLev t (LW r fs (r - 1 - t))).length ≤ 16000000 := by
        rw [← eW]
        exact (LV (r - t) (by omega)).ok.n
      have hus : ∀ f ∈ lawLev t (LW r fs (r - 1 - t)), f ∈ usT r fs t := fun f hf => by
        unfold usT
        by_cases z : t = 0
        · subst z
          rw [if_pos rfl]
          rw [← eW] at hf
          rw [LW_zero r fs (by omega) f hf]
          simp
        · rw [if_neg z, eW]
          exact mem_ded.mpr hf
      rw [eW] at S
      have elev : (levT w K r fs r)[r - 1 - t]? = some (pD w (dcE (ded (LW r fs (r - 1 - t))) (pvl K t))) := by
        unfold levT
        rw [List.getElem?_map, List.getElem?_range (by omega)]
        have e2 : r - 1 - (r - 1 - t) = t := by omega
        simp only [Option.map_some, e2]
      generalize hW : LW r fs (r - 1 - t) = W at S lv hlev0 hus elev
      have hWf : ∀ g ∈ W, Fm (m + (r - 1 - t)) c g := by rw [← hW]; exact lv.fm
      have ho : okL W.length (m + (r - 1 - t)) (t + 1) := by
        have := lv.ok
        rw [hW] at this
        have e : r - (r - 1 - t) = t + 1 := by omega
        rw [e] at this
        exact this
      obtain ⟨hlev, hhalf, h62⟩ := okL_lev hWf ho
      have S1 := S.pure (Wk.refl _) rfl
      refine w_asg 5 (R := pD w (dcE (ded W) (pvl K t))) S1 (je_ixL (K := K) (j := r - 1 - t) (je_v 3 fun _ => pv 3) (je_sub (je_sub (je_v 1 fun _ => pv 1) je_i) (je_v 4 fun _ => pv 4)) (fun _ _ => rfl) (ixN_nat (by omega) (by unfold levT; rw [List.length_map, List.length_range]; omega)) elev) (fun ow5 σ5 P5 H5 S5 => ?_) scFT.nd
      refine w_asgN 10 S5 (jn_dict (w := w)) (fun ow9 σ9 P9 H9 S9 => ?_) scFT.nd
      refine w_asgN 11 S9 (jn_dict (w := w)) (fun ow10 σ10 P10 H10 S10 => ?_) scFT.nd
      refine ft_loop2 T hr (l := t) (us := usT r fs t) (g := numL t (lawLev t W)) (nodup_ded _) (Nat.le_trans (ded_len _) ho.n) (fun f hf => h62 f (mem_ded.mp hf)) (fun f hf p hp => ⟨hus _ (mem_lawLev (mem_ded.mp hf) hp).1, hus _ (mem_lawLev (mem_ded.mp hf) hp).2⟩) (fun f => Nat.le_trans (numL_lt _ _ _) hlev0) S10 fun ow11 σ11 P11 H11 S11 => ?_
      obtain ⟨ow12, P12, S12, _, _⟩ := S11.stillD (w := w) (i := 11) rfl
      refine w_asg 9 S12 (je_v 11 fun _ => pv 11) (fun ow13 σ13 P13 H13 S13 => w_nil ?_) scFT.nd
      have S14 := S.backP S13
      have e8 : pD w (dcE (usT r fs (pre ++ [t]).length) fun f => pI (numL (pre ++ [t]).length (LW r fs (r - (pre ++ [t]).length)) f : Nat)) = pD w (dcE (ded W) fun f => pI (ixOf (ded ((ded W).map (keyL t (numL t (lawLev t W))))) (keyL t (numL t (lawLev t W)) f) : Nat)) := by
        have e : (pre ++ [t]).length = t + 1 := by rw [List.length_append, ht]; rfl
        have e2 : r - (t + 1) = r - 1 - t := by omega
        unfold usT
        rw [e, if_neg (by omega), e2, hW]
        rfl
      rw [e8]
      exact at8 S14 (.keep (.keep (.keep (.keep (.drop (.drop (.drop (.drop (.drop (.keep (.drop (.drop (Wk.refl _)))))))))))))
    · intro ow σ P H S
      rw [List.length_range, Nat.sub_self] at S
      have hin : ∀ y ∈ lines, nrm r y ∈ usT r fs r := fun y hy => by
        unfold usT
        by_cases z : r = 0
        · subst z
          rw [if_pos rfl, nrm_zero]
          simp
        · rw [if_neg z, Nat.sub_self]
          exact mem_ded.mpr (by rw [← hfs]; exact List.mem_map_of_mem hy)
      refine w_ret S (JE.is (JF.je (jf_lc (α := Ln) (ys := lines) (r := fun f => pL (f.map pK)) [("line", 7)] [.pr (pBLs lines), .pr (pI r), .pr (pNd (LW r fs r)), .pr (pL (levT w K r fs r)), .un, .un, .un, .un, .un, .pr (pD w (dcE (usT r fs r) fun f => pI (numL r (LW r fs 0) f : Nat))), .un, .un, .un, .un, .un]
        (ji_list (K := K) (je_v 0 fun _ => pv 0)) (fun _ => blkOk_by (N := nFT) (sc := defScope sFT) (by decide +kernel)) (Wk.refl _) rfl
        (fun y => jg_name 7 fun _ => pg_name scFT.nd rfl (by first | exact .inl rfl | exact .inr rfl)) (by simp) (by simp) (fun _ => true) (fun y => pI (typL r lines y : Nat)) (fun _ _ => jts_nil)
        (fun y hy _ => je_getD (w := w) (ks := nfk (nrm r y)) (R := pI (typL r lines y : Nat)) (je_v 9 fun _ => pv 9) (JE.to (je_call (Cal.blk fun _ => cN _ hr) (y, r) (ja_cons (je_v 7 fun _ => pv 7) (ja_cons (je_v 1 fun _ => pv 1) ja_nil)) ⟨Nat.le_trans (hl50 y hy) (by decide), hr5⟩) fun _ _ => pbs_nf) (by
          rw [at_dc (hin y hy)]
          unfold typL
          rw [hfs]
          rfl) (nf_depth _) (fun _ => room16 hr) (fun _ _ => rfl))
        (le_line hll) (fun _ => scFT.nd))) (by rw [List.filter_eq_self.mpr (fun _ _ => rfl)])) fun v P H S r => kQ v P H S.gr r
end
end K74
/-! _law_answer -/
namespace K74
open PySem PySem.Spec PyProof.Rows L2 Ly M74
theorem find_range_eq (k : Nat) (P Q : Nat → Bool) (h1 : ∀ j, Q j = true → P j = true) (h2 : ∀ j, j < k → P j = true → Q j = false → ∃ j', j' < j ∧ Q j' = true) : (List.range k).find? P = (List.range k).find? Q := by
  cases e : (List.range k).find? P with
  | none =>
    symm
    rw [List.find?_eq_none] at e ⊢
    exact fun x hx z => e x hx (h1 x z)
  | some j =>
    rw [List.find?_range_eq_some] at e
    obtain ⟨p, hj, hb⟩ := e
    have hj := List.mem_range.mp hj
    symm
    rw [List.find?_range_eq_some]
    cases q : Q j with
    | false =>
      obtain ⟨j', hj', q'⟩ := h2 j hj p q
      have := hb j' hj'
      rw [h1 j' q'] at this
      exact absurd this (by decide)
    | true =>
      refine ⟨rfl, List.mem_range.mpr hj, fun i hi => ?_⟩
      cases q2 : Q i with
      | false => rfl
      | true =>
        have := hb i hi
        rw [h1 i q2] at this
        exact absurd this (by decide)
theorem find_flat {α β : Type} (A B : α → List β) (e : β → Bool) : ∀ l : List α, (∀ x ∈ l, (A x).find? e = (B x).find? e) → (l.flatMap A).find? e = (l.flatMap B).find? e
  | [], _ => rfl
  | x :: l, h => by
    rw [List.flatMap_cons, List.flatMap_cons, List.find?_append, List.find?_append, h x (by simp), find_flat A B e l fun y hy => h y (List.mem_cons_of_mem _ hy)]
/-- the law's own answer -/
noncomputable def lawAns (r : Nat) (f : Ln) (p : NP) (g : Ln) : Option NP := (spt (2 ^ r - 1) g).find? fun q => e2B r f p g q
theorem lawAns_head (r : Nat) (f : Ln) (p : NP) (g : Ln) : lawAns r f p g = (ansL r f p g)[0]? := by
  have e1 : (ansL r f p g)[0]? = (plc (2 ^ r - 1) g).find? fun q => e2B r f p g q := by
    unfold ansL
    rw [← List.head?_eq_getElem?, List.head?_filter]
  rw [e1]
  unfold lawAns spt plc
  refine find_flat _ _ _ _ fun y hy => ?_
  have hy := mem_idx.mp hy
  obtain ⟨i, b⟩ := y
  rw [List.find?_map, List.find?_map]
  congr 1
  cases b with
  | up => rfl
  | dn => rfl
  | n k =>
    show ((List.range k).filter fun j => decide (min j (k - 1 - j) ≤ 2 ^ r - 1)).find? _ = ((List.range k).filter fun j => decide (j ≤ 2 ^ r - 1) || decide (k - j ≤ 2 ^ r - 1)).find? _
    rw [List.find?_filter, List.find?_filter]
    have hp := pow_pos r
    refine find_range_eq k _ _ (fun j h => ?_) (fun j hj h h' => ?_)
    · simp only [Bool.and_eq_true, Bool.or_eq_true, decide_eq_true_eq] at h ⊢
      refine ⟨?_, h.2⟩
      omega
    · simp only [Bool.and_eq_true, decide_eq_true_eq] at h
      obtain ⟨hm, he⟩ := h
      have hq : ¬ (j ≤ 2 ^ r - 1 ∨ k - j ≤ 2 ^ r - 1) := fun z => by
        rw [he] at h'
        have : (decide (j ≤ 2 ^ r - 1) || decide (k - j ≤ 2 ^ r - 1)) = true := by simpa using z
        rw [this] at h'
        exact absurd h' (by decide)
      refine ⟨2 ^ r - 1, by omega, ?_⟩
      simp only [Bool.and_eq_true, Bool.or_eq_true, decide_eq_true_eq]
      refine ⟨.inl (Nat.le_refl _), ?_⟩
      have he : e2B r f p g (i, j) = true := he
      show e2B r f p g (i, 2 ^ r - 1) = true
      rw [e2B_iff] at he ⊢
      have hy : g[i]? = some (.n k) := hy
      refine he.trans ⟨?_, ?_⟩
      · show E r (lf g i j) (lf g i (2 ^ r - 1))
        rw [lf_at hy, lf_at hy]
        exact (E.refl _ _).append (E_big r _ _ (by omega) (Nat.le_refl _))
      · show E r (rg g i j) (rg g i (2 ^ r - 1))
        rw [rg_at hy, rg_at hy]
        exact (E_big r (k - 1 - j) (k - 1 - (2 ^ r - 1)) (by omega) (by omega)).append (E.refl _ _)
/-- the law's answer is the program's -/
theorem lawAns_ans {r : Nat} {f g : Ln} {p : NP} (h : E (r + 1) f g) (hp : Plc f p) : lawAns r f p g = some (ans r f p g) := by
  obtain ⟨q, hq⟩ := ansL_ne h hp
  rw [lawAns_head, hq]
  unfold ans
  rw [hq]
  rfl
theorem cutR_mid {α : Type} (xs : List α) (a b : Nat) : cutR xs (some (a : Int)) (some (b : Int)) = (xs.drop a).take (b - a) := by
  unfold cutR
  rw [HT.sIx_nat, HT.sIx_nat]
  by_cases h : a ≤ xs.length
  · rw [Nat.min_eq_left h]
    by_cases h2 : b ≤ xs.length
    · rw [Nat.min_eq_left h2]
    · rw [Nat.min_eq_right (by omega), List.take_of_length_le (by simp), List.take_of_length_le (by simp; omega)]
  · rw [show min a xs.length = xs.length by omega, List.drop_of_length_le (Nat.le_refl _), List.drop_of_length_le (by omega)]
    simp
theorem flat2 {α β : Type} (a b : α → β) : ∀ (l : List α) (k : Nat) (q : α), l[k]? = some q → ((l.flatMap fun x => [a x, b x]).drop (2 * k)).take 2 = [a q, b q]
  | [], k, q, h => by simp at h
  | x :: l, 0, q, h => by
    have h : x = q := by simpa using h
    subst h
    simp
  | x :: l, k + 1, q, h => by
    have h : l[k]? = some q := by simpa using h
    have e : 2 * (k + 1) = 2 * k + 2 := by omega
    rw [List.flatMap_cons, e, ← flat2 a b l k q h]
    congr 1
/-- the lines that are given types -/
def anLns (r : Nat) (f : Ln) (p : NP) (g : Ln) : List Ln := [lf f p.1 p.2, rg f p.1 p.2] ++ (spt (2 ^ r - 1) g).flatMap fun q => [lf g q.1 q.2, rg g q.1 q.2]
structure LAn where
  f : Ln
  g : Ln
  r : Nat
  p : NP
structure preLAn (a : LAn) : Prop where
  r : a.r ≤ 4
  f : a.f.length ≤ 50
  g : a.g.length ≤ 50
  ng : ∀ k, Blk.n k ∈ a.g → k ≤ 1000
  pf : Pos a.f
  pg : Pos a.g
  p : Plc a.f a.p
  ft : preFT (anLns a.r a.f a.p a.g) a.r
def pOpt (K : PySem.W.Frag) : Option NP → Pr
  | none => pN
  | some q => pP2 K q
theorem eqv_ints2 (a b c d : Nat) : PyData.eqv (.list [.int (a : Int), .int (b : Int)]) (.list [.int (c : Int), .int (d : Int)]) = (decide (a = c) && decide (b = d)) := by
  simp only [PyData.eqv, PyData.eqvAll, Bool.and_true]
  rw [Bool.eq_iff_iff]
  simp only [Bool.and_eq_true, beq_iff_eq, decide_eq_true_eq]
  omega
theorem sh_l2 (a b : Nat) : SeqAt.shaped (.list [.int (a : Int), .int (b : Int)]) = true := rfl
/-- a slot that says that a thing is so -/
def pF : Pr := ⟨fun _ _ => False, fun _ h => h⟩
def slB (b : Bool) : Sl := if b then .pr pF else .un
section
variable {Pg : Program} {w : World} {K : PySem.W.Frag} {mg : Str → Option Value} {base : Heap}
abbrev sLAn : Stmt := top 40
abbrev nLAn : List Str := ["source", "target", "rounds", "place", "spots", "lines", "spot", "types", "k"]
theorem scLAn : FnScope nLAn ["source", "target", "rounds", "place"] (defScope sLAn) := ⟨rfl, rfl, rfl, by decide +kernel, rfl, by decide +kernel, by decide +kernel⟩
noncomputable abbrev spLAn (K : PySem.W.Frag) : Sp := spF (fun a : LAn => [pL (a.f.map pK), pL (a.g.map pK), pI a.r, pP2 K a.p]) preLAn (fun a => pOpt K (lawAns a.r a.f a.p a.g))
theorem ok_LAn (T : Cst K mg) {f : Addr} {fd : FuncData} (F : FnP K "_law_answer" sLAn f fd) (cS : ∀ A : Around, Room 3 A → Cal Pg w K mg base A "_law_spots" (spSp K)) (cP : ∀ A : Around, Room 3 A → Cal Pg w K mg base A "_law_part_of" (spPO K)) (cT : ∀ A : Around, Room 3 A → Cal Pg w K mg base A "_law_find_types" spFT) :
    FnOk Pg w K mg base CX0 4 f fd ["source", "target", "rounds", "place"] (spLAn K) := by
  refine fnF 3 F scLAn (fun _ => rfl) fun cdv A outer s H0 Q E hr P0 a σ pre S kQ => ?_
  obtain ⟨fl, gl, r, p⟩ := a
  obtain ⟨hr4, hf, hg, ng, pf, pg, hp, ft⟩ := pre
  dsimp only at hr4 hf hg ng pf pg hp ft S kQ
  have h2 : 2 ^ r ≤ 2 ^ 4 := Nat.pow_le_pow_right (by decide) hr4
  have e4 : 2 ^ 4 = 16 := rfl
  have hsl : (spt (2 ^ r - 1) gl).length ≤ 50 * 1001 := Nat.le_trans (spt_len (by omega) ng) (Nat.mul_le_mul hg (Nat.le_refl _))
  refine w_asg 4 (R := pL ((spt (2 ^ r - 1) gl).map (pP2 K))) S (je_call (fun _ => cS _ hr) (true, gl, 2 ^ r - 1) (ja_cons (je_v 1 fun _ => pv 1) (ja_cons (JE.is (je_sub (je_shl je_i (je_v 2 fun _ => pv 2) ⟨by omega, by omega, by decide⟩) je_i) (congrArg (fun z => pI z) (shl_nat r))) ja_nil)) ⟨hg, by show 2 ^ r - 1 ≤ 1000; omega, ng⟩) (fun ow σ P H S => ?_) scLAn.nd
  have hpp : ∀ q ∈ spt (2 ^ r - 1) gl, ∃ b, gl[q.1]? = some b ∧ okJ b q.2 := fun q hq => mem_spt hq
  refine w_asgF 5 (Rs := [lf fl p.1 p.2, rg fl p.1 p.2].map fun f => pL (f.map pK)) S (jf_lst (ja_cons (je_call (fun _ => cP _ hr) (⟨true, fl, p.1, p.2, false⟩ : POx) (ja_cons (je_v 0 fun _ => pv 0) (ja_cons (je_v 3 fun _ => pv 3) (ja_cons je_bl ja_nil))) ⟨by show fl.length ≤ 1000; omega, hp⟩) (ja_cons (je_call (fun _ => cP _ hr) (⟨true, fl, p.1, p.2, true⟩ : POx) (ja_cons (je_v 0 fun _ => pv 0) (ja_cons (je_v 3 fun _ => pv 3) (ja_cons je_bl ja_nil))) ⟨by show fl.length ≤ 1000; omega, hp⟩) ja_nil))) (fun ow σ P H S => ?_) scLAn.nd
  refine w_for (ys := spt (2 ^ r - 1) gl) (r := pP2 K) S (ji_list (K := K) (je_v 4 fun _ => pv 4)) (fun y => jg_name 6 fun _ => pg_name scLAn.nd rfl (by first | exact .inl rfl | exact .inr rfl))
    (fun pre => [.pr (pL (fl.map pK)), .pr (pL (gl.map pK)), .pr (pI r), .pr (pP2 K p), .pr (pL ((spt (2 ^ r - 1) gl).map (pP2 K))), .ow (oL (([lf fl p.1 p.2, rg fl p.1 p.2] ++ pre.flatMap fun q => [lf gl q.1 q.2, rg gl q.1 q.2]).map fun f => pL (f.map pK))), .un, .un, .un]) (Wk.refl _) (by simp) ?_ ?_
  · intro xs' P0' H0' _ pre q post hys ow σ P H S
    have hq : q ∈ spt (2 ^ r - 1) gl := by rw [hys]; simp
    obtain ⟨b, hb, hj⟩ := hpp q hq
    have hpl : pre.length ≤ 50 * 1001 := by
      have : (spt (2 ^ r - 1) gl).length = pre.length + (post.length + 1) := by rw [hys, List.length_append, List.length_cons]
      omega
    have hfl := flat_len (fun q : NP => [lf gl q.1 q.2, rg gl q.1 q.2]) 2 pre (fun _ _ => Nat.le_refl _)
    have hl0 : ([lf fl p.1 p.2, rg fl p.1 p.2] ++ pre.flatMap fun q : NP => [lf gl q.1 q.2, rg gl q.1 q.2]).length ≤ 200000 := by
      rw [List.length_append]
      simp only [List.length_cons, List.length_nil]
      omega
    have enx : [lf fl p.1 p.2, rg fl p.1 p.2] ++ (pre ++ [q]).flatMap (fun q : NP => [lf gl q.1 q.2, rg gl q.1 q.2]) = ([lf fl p.1 p.2, rg fl p.1 p.2] ++ pre.flatMap fun q : NP => [lf gl q.1 q.2, rg gl q.1 q.2]) ++ [lf gl q.1 q.2] ++ [rg gl q.1 q.2] := by
      rw [List.flatMap_append, List.flatMap_cons]
      simp
    generalize ([lf fl p.1 p.2, rg fl p.1 p.2] ++ pre.flatMap fun q : NP => [lf gl q.1 q.2, rg gl q.1 q.2]) = cur at S hl0 enx
    have hsz : ∀ {n : Nat}, n ≤ 200001 → n < sizeLine := fun h => Nat.lt_of_le_of_lt h (by rw [sizeLine_eq]; decide)
    refine w_app 5 S (fun _ => pv 5) (je_call (fun _ => cP _ hr) (⟨true, gl, q.1, q.2, false⟩ : POx) (ja_cons (je_v 1 fun _ => pv 1) (ja_cons (je_v 6 fun _ => pv 6) (ja_cons je_bl ja_nil))) ⟨by show gl.length ≤ 1000; omega, b, hb, hj⟩) rfl rfl (by rw [List.length_map]; exact hsz (by omega)) (fun ow P H S => ?_)
    refine w_app 5 S (fun _ => pv 5) (je_call (fun _ => cP _ hr) (⟨true, gl, q.1, q.2, true⟩ : POx) (ja_cons (je_v 1 fun _ => pv 1) (ja_cons (je_v 6 fun _ => pv 6) (ja_cons je_bl ja_nil))) ⟨by show gl.length ≤ 1000; omega, b, hb, hj⟩) rfl rfl (by rw [List.length_append, List.length_map]; exact hsz (by simp; omega)) (fun ow P H S => w_nil ?_)
    rw [enx, List.map_append, List.map_append]
    exact at8 S (.keep (.keep (.keep (.keep (.keep (.keep (.drop (.keep (.keep .nil)))))))))
  · intro ow σ P H S
    obtain ⟨ow, P, S, _, _⟩ := S.still (i := 5) rfl
    generalize hln : [lf fl p.1 p.2, rg fl p.1 p.2] ++ (spt (2 ^ r - 1) gl).flatMap (fun q : NP => [lf gl q.1 q.2, rg gl q.1 q.2]) = lns at S
    have hln : anLns r fl p gl = lns := hln
    rw [hln] at ft
    refine w_asg 7 S (je_call (fun _ => cT _ hr) (lns, r) (ja_cons (je_v 5 fun _ => pv 5) (ja_cons (je_v 2 fun _ => pv 2) ja_nil)) ft) (fun ow σ P H S => ?_) scLAn.nd
    have hpos : ∀ f ∈ lns, Pos f := fun f hf => by
      rw [← hln] at hf
      unfold anLns at hf
      rcases List.mem_append.mp hf with h | h
      · have : f = lf fl p.1 p.2 ∨ f = rg fl p.1 p.2 := by simpa using h
        rcases this with e | e
        · rw [e]; exact pos_lf pf _ _
        · rw [e]; exact pos_rg pf _ _
      · obtain ⟨q, _, h⟩ := List.mem_flatMap.mp h
        have : f = lf gl q.1 q.2 ∨ f = rg gl q.1 q.2 := by simpa using h
        rcases this with e | e
        · rw [e]; exact pos_lf pg _ _
        · rw [e]; exact pos_rg pg _ _
    have hin0 : lf fl p.1 p.2 ∈ lns ∧ rg fl p.1 p.2 ∈ lns := by
      rw [← hln]
      unfold anLns
      exact ⟨by simp, by simp⟩
    have hinq : ∀ q ∈ spt (2 ^ r - 1) gl, lf gl q.1 q.2 ∈ lns ∧ rg gl q.1 q.2 ∈ lns := fun q hq => by
      rw [← hln]
      unfold anLns
      exact ⟨List.mem_append_right _ (List.mem_flatMap.mpr ⟨q, hq, by simp⟩), List.mem_append_right _ (List.mem_flatMap.mpr ⟨q, hq, by simp⟩)⟩
    have hty : ∀ q ∈ spt (2 ^ r - 1) gl, (decide (typL r lns (lf gl q.1 q.2) = typL r lns (lf fl p.1 p.2)) && decide (typL r lns (rg gl q.1 q.2) = typL r lns (rg fl p.1 p.2))) = e2B r fl p gl q := fun q hq => by
      have k1 := typL_ok (r := r) hpos (hinq q hq).1 hin0.1
      have k2 := typL_ok (r := r) hpos (hinq q hq).2 hin0.2
      rw [Bool.eq_iff_iff, e2B_iff]
      simp only [Bool.and_eq_true, decide_eq_true_eq]
      rw [k1, k2]
      exact ⟨fun h => ⟨h.1.symm, h.2.symm⟩, fun h => ⟨h.1.symm, h.2.symm⟩⟩
    -- the slices
    have ecut : ∀ (k : Nat) (q : NP), (spt (2 ^ r - 1) gl)[k]? = some q → cutR (lns.map fun f => pI (typL r lns f : Nat)) (some ((2 + 2 * k : Nat) : Int)) (some ((4 + 2 * k : Nat) : Int)) = [pI (typL r lns (lf gl q.1 q.2) : Nat), pI (typL r lns (rg gl q.1 q.2) : Nat)] := fun k q hq => by
      rw [cutR_map, cutR_mid]
      have e : 4 + 2 * k - (2 + 2 * k) = 2 := by omega
      rw [e]
      have e2 : (lns.drop (2 + 2 * k)).take 2 = [lf gl q.1 q.2, rg gl q.1 q.2] := by
        rw [← hln]
        unfold anLns
        have e3 : 2 + 2 * k = [lf fl p.1 p.2, rg fl p.1 p.2].length + 2 * k := rfl
        rw [e3, List.drop_append]
        simp only [Nat.add_sub_cancel_left]
        rw [List.drop_of_length_le (Nat.le_add_right _ _), List.nil_append]
        exact flat2 (fun q : NP => lf gl q.1 q.2) (fun q : NP => rg gl q.1 q.2) _ k q hq
      rw [e2]
      rfl
    have ecut0 : cutR (lns.map fun f => pI (typL r lns f : Nat)) none (some ((2 : Nat) : Int)) = [pI (typL r lns (lf fl p.1 p.2) : Nat), pI (typL r lns (rg fl p.1 p.2) : Nat)] := by
      rw [cutR_map, cutR_to]
      have e2 : lns.take 2 = [lf fl p.1 p.2, rg fl p.1 p.2] := by
        rw [← hln]
        unfold anLns
        simp
      rw [e2]
      rfl
    let hit : Nat → Bool := fun k => match (spt (2 ^ r - 1) gl)[k]? with
      | some q => e2B r fl p gl q
      | none => false
    refine w_for (ys := List.range (spt (2 ^ r - 1) gl).length) (r := fun i : Nat => pI (i : Int)) S (JI.is (ji_range (JE.is (je_lenL (K := K) (je_v 4 fun _ => pv 4) (fun _ => T.bt.len)) (congrArg (fun z : Nat => pI (z : Int)) (List.length_map _))) (by omega) (by omega) (hm := fun _ => T.bt.range)) (by
        rw [Int.toNat_natCast]
        exact List.map_congr_left fun i _ => congrArg (fun z => pI z) (by omega))) (fun y => jg_name 8 fun _ => pg_name scLAn.nd rfl (by first | exact .inl rfl | exact .inr rfl))
      (fun pre => [.pr (pL (fl.map pK)), .pr (pL (gl.map pK)), .pr (pI r), .pr (pP2 K p), .pr (pL ((spt (2 ^ r - 1) gl).map (pP2 K))), .pr (pBLs lns), slB (pre.any hit), .pr (pL (lns.map fun f => pI (typL r lns f : Nat))), .un]) (Wk.refl _) (by simp) ?_ ?_
    · intro xs' P0' H0' up pre k post hys ow σ P H S
      obtain ⟨rfl, hi⟩ := range_ix hys
      obtain ⟨q, hq⟩ : ∃ q, (spt (2 ^ r - 1) gl)[pre.length]? = some q := ⟨_, List.getElem?_eq_getElem hi⟩
      have hqm := List.mem_of_getElem? hq
      have hpre : pre = List.range pre.length := by
        have h := congrArg (List.take pre.length) hys
        rw [List.take_left, List.take_range, Nat.min_eq_left (by omega)] at h
        exact h.symm
      cases hh : pre.any hit with
      | true =>
        rw [hh] at S
        obtain ⟨v, _, z⟩ := S.get (i := 6) (R := pF) rfl
        exact z.elim
      | false =>
        rw [hh] at S
        refine w_if S (q := e2B r fl p gl q) (JT.is (jt_eqD (K := K) (Ra := pL [pI (typL r lns (lf gl q.1 q.2) : Nat), pI (typL r lns (rg gl q.1 q.2) : Nat)]) (Rb := pL [pI (typL r lns (lf fl p.1 p.2) : Nat), pI (typL r lns (rg fl p.1 p.2) : Nat)])
            (JE.is (JF.je (jf_slL (K := K) (je_v 7 fun _ => pv 7) (jo_e (JE.is (je_add je_i (je_mul je_i (je_v 8 fun _ => pv 8) (.inl ⟨by omega, by omega⟩))) (congrArg (fun z => pI z) (show (2 : Int) + 2 * (pre.length : Int) = ((2 + 2 * pre.length : Nat) : Int) by omega)))) (jo_e (JE.is (je_add je_i (je_mul je_i (je_v 8 fun _ => pv 8) (.inl ⟨by omega, by omega⟩))) (congrArg (fun z => pI z) (show (4 : Int) + 2 * (pre.length : Int) = ((4 + 2 * pre.length : Nat) : Int) by omega)))))) (congrArg pL (ecut _ q hq)))
            (JE.is (JF.je (jf_slL (K := K) (je_v 7 fun _ => pv 7) jo_no (jo_e je_i))) (congrArg pL ecut0))
            (pd_l (pdl_cons pd_i (pdl_cons pd_i pdl_nil))) (pd_l (pdl_cons pd_i (pdl_cons pd_i pdl_nil))) (sh_l2 _ _) (sh_l2 _ _) (fun _ => room64 hr) (nomark _)) (by rw [eqv_ints2]; exact hty q hqm)) (fun h P H S => ?_) (fun h P H S => w_nil (w_nil ?_))
        · refine w_ret S (je_ixL (K := K) (R := pP2 K q) (j := pre.length) (je_v 4 fun _ => pv 4) (je_v 8 fun _ => pv 8) (fun _ _ => rfl) (ixN_nat rfl (by rw [List.length_map]; omega)) (by rw [List.getElem?_map, hq]; rfl)) fun v P H S r1 => kQ v P H (up S).gr ?_
          have e : lawAns r fl p gl = some q := by
            unfold lawAns
            rw [List.find?_eq_some_iff_getElem]
            refine ⟨h, pre.length, hi, (List.getElem?_eq_some_iff.mp hq).2, fun j hj => ?_⟩
            have hj' : j ∈ pre := by rw [hpre]; exact List.mem_range.mpr hj
            have := (List.any_eq_false.mp hh) j hj'
            have e3 : hit j = e2B r fl p gl ((spt (2 ^ r - 1) gl)[j]'(by omega)) := by
              show (match (spt (2 ^ r - 1) gl)[j]? with | some q => e2B r fl p gl q | none => false) = _
              rw [List.getElem?_eq_getElem (by omega)]
            rw [e3] at this
            simpa using this
          rw [e]
          exact r1
        · have e : (pre ++ [pre.length]).any hit = false := by
            rw [List.any_append, hh]
            show (false || (hit pre.length || false)) = false
            have e3 : hit pre.length = e2B r fl p gl q := by
              show (match (spt (2 ^ r - 1) gl)[pre.length]? with | some q => e2B r fl p gl q | none => false) = _
              rw [hq]
            rw [e3, h]
            rfl
          rw [e]
          exact at8 S (.keep (.keep (.keep (.keep (.keep (.keep (.keep (.keep (.drop .nil)))))))))
    · intro ow σ P H S
      cases hh : (List.range (spt (2 ^ r - 1) gl).length).any hit with
      | true =>
        rw [hh] at S
        obtain ⟨v, _, z⟩ := S.get (i := 6) (R := pF) rfl
        exact z.elim
      | false =>
        refine w_ret S je_n fun v P H S r1 => kQ v P H S.gr ?_
        have e : lawAns r fl p gl = none := by
          unfold lawAns
          rw [List.find?_eq_none]
          intro q hq
          obtain ⟨j, hj⟩ := List.mem_iff_getElem?.mp hq
          have hj2 := (List.getElem?_eq_some_iff.mp hj).1
          have := (List.any_eq_false.mp hh) j (List.mem_range.mpr hj2)
          have e3 : hit j = e2B r fl p gl q := by
            show (match (spt (2 ^ r - 1) gl)[j]? with | some q => e2B r fl p gl q | none => false) = _
            rw [hj]
          rw [e3] at this
          simpa using this
        rw [e]
        exact r1
end
end K74
/-! Defs that change an object that is handed in. -/
namespace Ly
open PySem PySem.Spec PyProof.Rows L2
/-- this object at these addresses -/
def fixO (O : Ow) (v : V) (fp : List Addr) : Ow := ⟨fun P H v' fp' => v' = v ∧ fp' = fp ∧ O.ok P H v' fp', fun e k ⟨h1, h2, h3⟩ => ⟨h1, h2, O.up e k h3⟩⟩
/-- a def whose first argument is an object that it may change: as O before, as O' behind -/
def spM {α : Type} (O : α → Ow) (ar : α → List Pr) (pre : α → Prop) (res : α → Pr) (O' : α → Ow) : Sp := fun vs H Q _ => ∃ (P : Hp) (a : α) (v : V) (fp : List Addr) (ws : List V), vs = v :: ws ∧ Ld P H ∧ pre a ∧ (∀ b ∈ fp, P b = none ∧ H b ≠ none) ∧ (O a).ok P H v fp ∧ PL P (ar a) ws ∧
  ∀ r P2 H2, Same P P2 → Ld P2 H2 → (∀ b o, b ∉ fp → H b = some o → H2 b = some o) → (∀ b, H b ≠ none → P b = none → P2 b = none) → (∀ b ∈ fp, H2 b ≠ none) → (O' a).ok P2 H2 v fp → (res a).p P2 r → Q r H2
theorem SlAll.sameP {P H : Hp} {ow : List Addr} {σ : L2.St} {ss : List Sl} (h : SlAll P H ow σ ss) : ∀ {i : Nat} {s : Sl}, ss[i]? = some s →
    ∃ (v : Option V) (fp : List Addr), σ[i]? = some v ∧ Sl1 P H fp v s ∧ (∀ a ∈ fp, a ∈ ow) ∧ ∀ (P' H' : Hp) (s' : Sl), Same P P' → (∀ a ∈ ow, a ∉ fp → H' a = H a) → Sl1 P' H' fp v s' → SlAll P' H' ow σ (ss.set i s') := by
  induction h with
  | nil =>
    intro i s h
    simp at h
  | @cons ow f0 v s0 σ ss a dj hr ih =>
    intro i s h
    cases i with
    | zero =>
      have h : s0 = s := by simpa using h
      subst h
      exact ⟨v, f0, rfl, a, fun b hb => List.mem_append_left _ hb, fun P' H' s' hp hh a' => .cons a' dj (hr.grow hp fun b hb => hh b (List.mem_append_right _ hb) fun z => dj b z hb)⟩
    | succ i =>
      have h : ss[i]? = some s := by simpa using h
      obtain ⟨u, fp, e, q, sub, put⟩ := ih h
      refine ⟨u, fp, by simpa using e, q, fun b hb => List.mem_append_right _ (sub b hb), fun P' H' s' hp hh a' => ?_⟩
      exact .cons (a.up hp fun b hb => hh b (List.mem_append_left _ hb) fun z => dj b hb (sub b z)) dj (put P' H' s' hp (fun b hb hn => hh b (List.mem_append_right _ hb) hn) a')
theorem S8.lendM {xs : List Addr} {P0 H0 : Hp} {ow : List Addr} {σ : L2.St} {P H : Hp} {ss : List Sl} (S : S8 xs P0 H0 ow σ P H ss) {i : Nat} {O : Ow} (h : ss[i]? = some (.ow O)) : ∃ v fp, σ[i]? = some (some v) ∧ O.ok P H v fp ∧ (∀ a ∈ fp, P a = none ∧ H a ≠ none) ∧
    ∀ (P2 H2 : Hp) (O' : Ow), Same P P2 → Ld P2 H2 → (∀ b o, b ∉ fp → H b = some o → H2 b = some o) → (∀ b, H b ≠ none → P b = none → P2 b = none) → (∀ b ∈ fp, H2 b ≠ none) → O'.ok P2 H2 v fp → S8 xs P0 H0 ow σ P2 H2 (ss.set i (.ow O')) := by
  obtain ⟨v, fp, e, q, sub, put⟩ := SlAll.sameP S.sl h
  cases q with
  | @ow _ v _ r =>
    refine ⟨v, fp, e, r, fun a ha => ⟨(S.ows a (sub a ha)).1, (S.ows a (sub a ha)).2.1⟩, fun P2 H2 O' hp ld hh hn ks r' => ?_⟩
    have hne : ∀ b, H b ≠ none → H2 b ≠ none := fun b hb => by
      by_cases q : b ∈ fp
      · exact ks b q
      · cases eb : H b with
        | none => exact absurd eb hb
        | some o => rw [hh b o q eb]; exact Option.some_ne_none _
    have g := put P2 H2 (.ow O') hp (fun a ha n => by
      cases eb : H a with
      | none => exact absurd eb (S.ows a ha).2.1
      | some o => exact hh a o n eb) (.ow r')
    refine ⟨S.p0.trans hp, ld, fun b o hb eb => ?_, fun b hb eb => hn b (S.hh hb) (S.nw b hb eb), fun a ha => ⟨hn a (S.ows a ha).2.1 (S.ows a ha).1, hne a (S.ows a ha).2.1, (S.ows a ha).2.2⟩, fun a ha => hne a (S.xh a ha), g⟩
    have eb' := S.h0 b o hb eb
    refine hh b o (fun z => ?_) eb'
    rcases (S.ows b (sub b z)).2.2 with q | q
    · rw [q] at eb; cases eb
    · exact hb q
section
variable {ι : Type} {F : ι → Cx} {K : PySem.W.Frag} {ss ss1 ss2 : List Sl} {R : Pr} {Rs : List Pr} {x : Str} {p pos : Pos} {e : Expr} {es : List Expr} {O0 : Ow}
/-- f(state, ..) -/
theorem je_callM {α : Type} {O O' : α → Ow} {ar : α → List Pr} {pre : α → Prop} {res : α → Pr} {va : V} {fpa : List Addr} (i : Nat) (c : ∀ j, CalX (F j) x (spM O ar pre res O')) (a : α) (ho : ∀ j, PE (F j) e (tVar i)) (ha : JA F es ss Rs ss1) (hp : pre a) (hs0 : ss[i]? = some (.ow O0) := by rfl) (hs1 : ss1[i]? = some (.ow (fixO (O a) va fpa)) := by rfl)
    (hA : ar a = Rs := by rfl) (hR : res a = R := by rfl) (hg : ∀ i, Gl (F i) x := by intro _; rfl) (hdb : (x == ("__debug__" : Str)) = false := by decide) (he : ∀ i, starEach (e :: es) (F i).env = (false, eval e (F i).env) :: starEach es (F i).env := by intro _; rfl)
    (hpl : ∀ i, (backTo pos (starEach es (F i).env)).any (·.1) = false := by intro _; rfl) : JE F (.Call (.Name x p) (e :: es) [] pos) ss R (ss1.set i (.ow (fixO (O' a) va fpa))) := fun xs P0 H0 ow σ P H S Q k =>
  ⟨tCall (spM O ar pre res O') [] E0 (tCons (tVar i) (XA F es)), fun j => by
    obtain ⟨CX, kk, f, fd, ps, G, hr, hm, hk, hb, hx⟩ := (c j).ex
    exact pe_call G hr (hg j) hm hk hb .nil (hx _ rfl rfl) (pa_cons (ho j) (xa j) (he j)) hdb (he j) (hpl j), by
    obtain ⟨v0, fp0, ev0, _, _, _⟩ := S.lendM hs0
    refine ⟨v0, ev0, ha _ _ _ _ _ _ _ S _ fun vs P2 H2 S2 e2 r2 => ?_⟩
    obtain ⟨v, fp, ev, ⟨h1, h2, ok⟩, hfp, put⟩ := S2.lendM hs1
    rw [ev0] at ev
    have ev : v0 = v := by injection ev with z; injection z
    subst ev h1 h2
    rw [List.append_nil]
    refine ⟨P2, a, v0, fp, vs, rfl, S2.ld, hp, hfp, ok, hA ▸ r2, fun r P3 H3 hP ld hh hn hk ok' r3 => ?_⟩
    exact k r P3 H3 (put P3 H3 (fixO (O' a) v0 fp) hP ld hh hn hk ⟨rfl, rfl, ok'⟩) (e2.trans hP) (hR ▸ r3)⟩
/-- .. where nothing is being written out -/
theorem je_callMG {α : Type} {O O' : α → Ow} {ar : α → List Pr} {pre : α → Prop} {res : α → Pr} {va : V} {fpa : List Addr} (i : Nat) (c : ∀ j, CalGX (F j) x (spM O ar pre res O')) (a : α) (ho : ∀ j, PE (F j) e (tVar i)) (ha : JA F es ss Rs ss1) (hp : pre a) (hs0 : ss[i]? = some (.ow O0) := by rfl) (hs1 : ss1[i]? = some (.ow (fixO (O a) va fpa)) := by rfl)
    (hA : ar a = Rs := by rfl) (hR : res a = R := by rfl) (hg : ∀ i, Gl (F i) x := by intro _; rfl) (hdb : (x == ("__debug__" : Str)) = false := by decide) (he : ∀ i, starEach (e :: es) (F i).env = (false, eval e (F i).env) :: starEach es (F i).env := by intro _; rfl)
    (hpl : ∀ i, (backTo pos (starEach es (F i).env)).any (·.1) = false := by intro _; rfl) : JE F (.Call (.Name x p) (e :: es) [] pos) ss R (ss1.set i (.ow (fixO (O' a) va fpa))) := fun xs P0 H0 ow σ P H S Q k =>
  ⟨fun σ H Q => tCons (tVar i) (XA F es) σ H fun vs H1 => spM O ar pre res O' vs H1 Q (fun _ _ _ => False), fun j => pe_callWG (c j) takes0 (hg j) (pa_cons (ho j) (xa j) (he j)) hdb (he j) (hpl j), by
    obtain ⟨v0, fp0, ev0, _, _, _⟩ := S.lendM hs0
    refine ⟨v0, ev0, ha _ _ _ _ _ _ _ S _ fun vs P2 H2 S2 e2 r2 => ?_⟩
    obtain ⟨v, fp, ev, ⟨h1, h2, ok⟩, hfp, put⟩ := S2.lendM hs1
    rw [ev0] at ev
    have ev : v0 = v := by injection ev with z; injection z
    subst ev h1 h2
    refine ⟨P2, a, v0, fp, vs, rfl, S2.ld, hp, hfp, ok, hA ▸ r2, fun r P3 H3 hP ld hh hn hk ok' r3 => ?_⟩
    exact k r P3 H3 (put P3 H3 (fixO (O' a) v0 fp) hP ld hh hn hk ⟨rfl, rfl, ok'⟩) (e2.trans hP) (hR ▸ r3)⟩
end
section
variable {P : Program} {w : World} {K : PySem.W.Frag} {mg : Str → Option Value} {base : Heap} {x qual : Str} {st : Stmt} {f : Addr} {fd : FuncData} {N ps : List Str}
theorem startM {fp : List Addr} {P0 H : Hp} {v : V} {ws : List V} {O : Ow} {Rs : List Pr} (hl : Rs.length + 1 = ps.length) (ld : Ld P0 H) (hfp : ∀ b ∈ fp, P0 b = none ∧ H b ≠ none) (ok : O.ok P0 H v fp) (r : PL P0 Rs ws) : S8 fp P0 H fp (L2.start N (v :: ws)) P0 H (.ow (fixO O v fp) :: ini Rs (N.length - ps.length)) := by
  have e : (v :: ws).length = ps.length := by rw [List.length_cons, r.len, hl]
  refine ⟨Same.refl _, ld, fun _ _ _ e => e, fun _ _ e => e, fun a ha => ⟨(hfp a ha).1, (hfp a ha).2, .inr ha⟩, fun a ha => (hfp a ha).2, ?_⟩
  unfold L2.start
  rw [e]
  have h := SlAll.cons (fp := fp) (ow := []) (.ow (show (fixO O v fp).ok P0 H v fp from ⟨rfl, rfl, ok⟩)) (fun a _ z => absurd z (by simp)) (ini_all (N.length - ps.length) r)
  rw [List.append_nil] at h
  exact h
theorem fnM {α : Type} {O O' : α → Ow} {ar : α → List Pr} {pre : α → Prop} {res : α → Pr} (k : Nat) (F : Fun K x qual st f fd) (S : FnScope N ps (defScope st)) (hl : ∀ a, (ar a).length + 1 = ps.length)
    (hb : ∀ (cdv : Value) (A : Around) (outer : List Env) (s : Shared) (H0 : Hp) (Q : VK) (E : XK), Room k (A.deeper (envOfC qual (defScope st) s.heap.objs.size f cdv)) → ∀ (P0 : Hp) (a : α) (v : V) (fp : List Addr) (σ : L2.St), pre a → S8 fp P0 H0 fp σ P0 H0 (.ow (fixO (O a) v fp) :: ini (ar a) (N.length - ps.length)) →
      (∀ r ow σ P2 H2 ss, S8 fp P0 H0 ow σ P2 H2 (.ow (fixO (O' a) v fp) :: ss) → (res a).p P2 r → Q r H2) → XS (cxOf CX0 P w K mg base N qual (defScope st) f cdv A outer s H0 E).nox (defBody st) { nx := fun _ H' => Q .non H', rt := Q } σ H0) :
    FnOk P w K mg base CX0 (k + 1) f fd ps (spM O ar pre res O') := by
  refine F.ok S (fun vs H Q E h => ?_) (fun cdv A outer s H vs Q E hr h => ?_)
  · obtain ⟨P0, a, x, dx, ws, rfl, _, _, _, _, r, _⟩ := h
    rw [List.length_cons, r.len, hl]
  · obtain ⟨P0, a, v, fp, ws, rfl, ld, hp, hfp, ok, r, q⟩ := h
    refine ⟨_, Ly.xs, hb cdv A outer s H Q E hr P0 a v fp _ hp (startM (hl a) ld hfp ok r) (fun u ow σ P2 H2 ss S2 ru => ?_)⟩
    obtain ⟨v2, fp2, ev, ⟨h1, h2, h3⟩, hk, _⟩ := S2.lendM (i := 0) rfl
    subst h1 h2
    exact q u P2 H2 S2.p0 S2.ld (fun b o hb hh => S2.h0 b o hb hh) S2.nw (fun b hb => (hk b hb).2) h3 ru
theorem fnMG {α : Type} {O O' : α → Ow} {ar : α → List Pr} {pre : α → Prop} {res : α → Pr} (k : Nat) (F : Fun K x qual st f fd) (S : FnScope N ps (defScope st)) (hl : ∀ a, (ar a).length + 1 = ps.length)
    (hb : ∀ (X : Cx) (cdv : Value) (A : Around) (outer : List Env) (s : Shared) (H0 : Hp) (Q : VK) (E : XK), X = cxOf (L2.CX P w) P w K mg base N qual (defScope st) f cdv A outer s H0 E → Room k X.A → X.A.guards = some [] → ∀ (P0 : Hp) (a : α) (v : V) (fp : List Addr) (σ : L2.St), pre a → S8 fp P0 H0 fp σ P0 H0 (.ow (fixO (O a) v fp) :: ini (ar a) (N.length - ps.length)) →
      (∀ r ow σ P2 H2 ss, S8 fp P0 H0 ow σ P2 H2 (.ow (fixO (O' a) v fp) :: ss) → (res a).p P2 r → Q r H2) → XS (cxOf (L2.CX P w) P w K mg base N qual (defScope st) f cdv A outer s H0 E) (defBody st) { nx := fun _ H' => Q .non H', rt := Q } σ H0) :
    FnG P w K mg base (k + 1) f fd ps (spM O ar pre res O') := by
  refine FnG.of F S (fun vs H Q E h => ?_) (fun cdv A outer s H vs Q E hr hgd h => ?_)
  · obtain ⟨P0, a, x, dx, ws, rfl, _, _, _, _, r, _⟩ := h
    rw [List.length_cons, r.len, hl]
  · obtain ⟨P0, a, v, fp, ws, rfl, ld, hp, hfp, ok, r, q⟩ := h
    refine ⟨_, Ly.xs, hb _ cdv A outer s H Q E rfl hr hgd P0 a v fp _ hp (startM (hl a) ld hfp ok r) (fun u ow σ P2 H2 ss S2 ru => ?_)⟩
    obtain ⟨v2, fp2, ev, ⟨h1, h2, h3⟩, hk, _⟩ := S2.lendM (i := 0) rfl
    subst h1 h2
    exact q u P2 H2 S2.p0 S2.ld (fun b o hb hh => S2.h0 b o hb hh) S2.nw (fun b hb => (hk b hb).2) h3 ru
end
end Ly
/-! the state of the draws: _law_take -/
namespace K74
open PySem PySem.Spec PyProof.Rows L2 Ly M74
structure Ste where
  cells : List Nat
  at_ : Nat
  ct : Nat
def stL (lc : Addr) (s : Ste) : List V := [.ref lc, .int (s.at_ : Nat), .int (s.ct : Nat)]
def stC (s : Ste) : List V := s.cells.map fun n : Nat => .int n
def oStA (l lc : Addr) (s : Ste) : Ow := ⟨fun P H v fp => v = .ref l ∧ fp = [l, lc] ∧ l ≠ lc ∧ H l = some (.lst (stL lc s)) ∧ H lc = some (.lst (stC s)),
  fun e k ⟨h1, h2, h3, h4, h5⟩ => ⟨h1, h2, h3, by subst h2; rw [k l (by simp)]; exact h4, by subst h2; rw [k lc (by simp)]; exact h5⟩⟩
def oSt (s : Ste) : Ow := ⟨fun P H v fp => ∃ l lc, (oStA l lc s).ok P H v fp, fun e k ⟨l, lc, h⟩ => ⟨l, lc, (oStA l lc s).up e k h⟩⟩
/-- one draw -/
def Ste.take (s : Ste) (many : Nat) : Nat × Ste :=
  if many < 2 then (0, ⟨s.cells, s.at_, s.ct + 1⟩)
  else match s.cells[s.at_]? with
    | some c => (c % many, ⟨s.cells.set s.at_ (c / many), if c < many then s.at_ + 1 else s.at_, s.ct + 1⟩)
    | none => ((s.ct + 1) * 48271 % 65537 % many, ⟨s.cells, s.at_, s.ct + 1⟩)
theorem _root_.Ly.S8.st {xs : List Addr} {P0 H0 : Hp} {ow : List Addr} {σ : L2.St} {P H : Hp} {ss : List Sl} (S : S8 xs P0 H0 ow σ P H ss) {i : Nat} {l lc : Addr} {s : Ste} (h : ss[i]? = some (.ow (oStA l lc s))) :
    σ[i]? = some (some (.ref l)) ∧ l ≠ lc ∧ H l = some (.lst (stL lc s)) ∧ H lc = some (.lst (stC s)) ∧ ∀ (s' : Ste) (H' : Hp), (∀ b, b ≠ l → b ≠ lc → H' b = H b) → H' l = some (.lst (stL lc s')) → H' lc = some (.lst (stC s')) → S8 xs P0 H0 ow σ P H' (ss.set i (.ow (oStA l lc s'))) := by
  obtain ⟨v, fp, ev, ⟨h1, h2, h3, h4, h5⟩, _, put⟩ := S.ownedS h
  subst h1 h2
  refine ⟨ev, h3, h4, h5, fun s' H' k h4' h5' => put H' _ (fun b hb => k b (fun z => hb (by simp [z])) (fun z => hb (by simp [z]))) (fun b hb => ?_) ⟨rfl, rfl, h3, h4', h5'⟩⟩
  have hb : b = l ∨ b = lc := by simpa using hb
  rcases hb with rfl | rfl
  · rw [h4']; exact Option.some_ne_none _
  · rw [h5']; exact Option.some_ne_none _
section
variable {ι : Type} {F : ι → Cx} {K : PySem.W.Frag} {ss ss1 ss2 : List Sl} {R : Pr} {o e b : Expr} {pos p : Pos} {l lc : Addr} {s : Ste}
theorem je_stIx (i : Nat) {z : Int} {j : Nat} {u : V} (ho : ∀ j, PE (F j) o (tVar i)) (hb : JE F b ss (pI z) ss1) (hs : ss[i]? = some (.ow (oStA l lc s)) := by rfl) (hs1 : ss1[i]? = some (.ow (oStA l lc s)) := by rfl) (hx : PlainIx b) (hj : ixN 3 z = some j) (h : (stL lc s)[j]? = some u) (hK : ∀ i, (F i).K = K := by intro _; rfl) :
    JE F (.Subscript o b pos) ss (pV u) ss1 := fun xs P0 H0 ow σ P H S Q k => by
  obtain ⟨ev, _, _, _, _⟩ := S.st hs
  refine ⟨tOp (rIxL K) (tVar i) (XE F b), fun j => pe_ix (hK j ▸ ix_list) (ho j) (xe j) hx, _, ev, hb _ _ _ _ _ _ _ S _ fun w P2 H2 S2 e2 r2 => ?_⟩
  obtain ⟨_, _, hl, _, _⟩ := S2.st hs1
  refine ⟨l, _, z, u, rfl, r2, .inl (.inl hl), ?_, k u P2 H2 S2 e2 rfl⟩
  unfold atI
  rw [show (stL lc s).length = 3 from rfl, hj]
  exact h
theorem je_stLen (i : Nat) (ha : JE F e ss (pV (.ref lc)) ss1) (hs1 : ss1[i]? = some (.ow (oStA l lc s)) := by rfl) (hm : ∀ i, (F i).mg "len" = none) (hg : ∀ i, Gl (F i) "len" := by intro _; rfl) (he : ∀ i, starEach [e] (F i).env = (false, eval e (F i).env) :: starEach [] (F i).env := by intro _; rfl)
    (hpl : ∀ i, (backTo pos (starEach [] (F i).env)).any (·.1) = false := by intro _; rfl) (hK : ∀ i, (F i).K = K := by intro _; rfl) : JE F (.Call (.Name "len" p) [e] [] pos) ss (pI (s.cells.length : Int)) ss1 := fun xs P0 H0 ow σ P H S Q k => by
  refine ⟨tCB (rLen1 K) (tCons (XE F e) tNil), fun j => pe_callB (r := rLen1 K) (hK j ▸ call_len_seq) (hg j) (hm j) boot_len (pa_cons (xe j) pa_nil (he j)) (by decide) (by decide) (he j) (hpl j), ha _ _ _ _ _ _ _ S _ fun v P2 H2 S2 e2 r2 => ?_⟩
  obtain ⟨_, _, _, hc, _⟩ := S2.st hs1
  obtain rfl : v = .ref lc := r2
  exact ⟨lc, _, rfl, .inl (.inl (.inl hc)), k _ P2 H2 S2 e2 (by unfold stC; rw [List.length_map]; rfl)⟩
theorem je_stCell (i : Nat) {j c : Nat} (ha : JE F e ss (pV (.ref lc)) ss1) (hb : JE F b ss1 (pI (j : Int)) ss2) (hs2 : ss2[i]? = some (.ow (oStA l lc s)) := by rfl) (hx : PlainIx b) (hc : s.cells[j]? = some c) (hK : ∀ i, (F i).K = K := by intro _; rfl) :
    JE F (.Subscript e b pos) ss (pI (c : Int)) ss2 := fun xs P0 H0 ow σ P H S Q k => by
  refine ⟨tOp (rIxL K) (XE F e) (XE F b), fun j => pe_ix (hK j ▸ ix_list) (xe j) (xe j) hx, ha _ _ _ _ _ _ _ S _ fun v P1 H1 S1 e1 r1 => hb _ _ _ _ _ _ _ S1 _ fun w P2 H2 S2 e2 r2 => ?_⟩
  obtain ⟨_, _, _, hl, _⟩ := S2.st hs2
  obtain rfl : v = .ref lc := r1
  refine ⟨lc, _, (j : Int), .int (c : Int), rfl, r2, .inl (.inl hl), ?_, k _ P2 H2 S2 (e1.trans e2) rfl⟩
  have hj := (List.getElem?_eq_some_iff.mp hc).1
  unfold atI
  rw [ixN_nat rfl (by unfold stC; rw [List.length_map]; exact hj)]
  show (stC s)[j]? = _
  unfold stC
  rw [List.getElem?_map, hc]
  rfl
end
section
variable {X : Cx} {K : PySem.W.Frag} {xs : List Addr} {P0 H0 : Hp} {ow : List Addr} {σ : L2.St} {P H : Hp} {ss ss1 ss2 : List Sl} {R : Pr} {D : Ends} {rest : List Stmt} {e : Expr} {pos : Pos} {l lc : Addr} {s : Ste}
theorem w_stSet (i : Nat) {o b : Expr} {p : Pos} {z : Int} {j : Nat} {u : V} (s' : Ste) (S : S8 xs P0 H0 ow σ P H ss) (h : JE (C1 X) e ss (pV u) ss1) (ho : ∀ j, PE (C1 X j) o (tVar i)) (hb : JE (C1 X) b ss1 (pI z) ss1) (hs1 : ss1[i]? = some (.ow (oStA l lc s)) := by rfl) (hj : ixN 3 z = some j)
    (hu : (stL lc s).set j u = stL lc s') (hc : s'.cells = s.cells) (k : ∀ P H, S8 xs P0 H0 ow σ P H (ss1.set i (.ow (oStA l lc s'))) → XS X rest D σ H)
    (ha : ∀ v, assign (.Subscript o b p) X.env v = (do
      let ov ← holding [v] (eval o X.env)
      let iv ← holding [v, ov] (eval b X.env)
      standAt p
      holding [v, ov, iv] (setItem ov iv v)
      release [v, ov, iv] []) := by intro _; rfl)
    (hw : swapsWithSole [.Subscript o b p] e pos.line X.env = pure false := by rfl) (hw2 : swappedStores [.Subscript o b p] e X.env = pure none := by rfl) (h1 : (assignEach [.Subscript o b p] X.env).map (·.2) = [assign (.Subscript o b p) X.env] := by rfl) :
    XS X (.Assign [.Subscript o b p] e pos :: rest) D σ H := by
  refine w_cons ⟨_, ps_asg (xe (F := C1 X) ()) (pg_sub (ho ()) (xe (F := C1 X) ()) set_list ha) hw hw2 h1, ?_⟩
  refine h _ _ _ _ _ _ _ S _ fun v P2 H2 S2 e2 r2 => ?_
  obtain rfl : v = u := r2
  obtain ⟨ev, _, hl, _, _⟩ := S2.st hs1
  refine ⟨.ref l, ev, hb _ _ _ _ _ _ _ S2 _ fun w P3 H3 S3 e3 r3 => ?_⟩
  obtain ⟨_, hne, hl3, hc3, put⟩ := S3.st hs1
  refine ⟨l, _, z, j, rfl, r3, hl3, hj, k P3 _ (put s' _ (fun b h1 _ => upd_ne h1) (by rw [upd_same, hu]) ?_)⟩
  rw [upd_ne (fun z => hne z.symm), hc3]
  unfold stC
  rw [hc]
theorem w_stCell (i : Nat) {o b : Expr} {p : Pos} {j c : Nat} (S : S8 xs P0 H0 ow σ P H ss) (h : JE (C1 X) e ss (pI (c : Int)) ss1) (ho : JE (C1 X) o ss1 (pV (.ref lc)) ss1) (hb : JE (C1 X) b ss1 (pI (j : Int)) ss1) (hs1 : ss1[i]? = some (.ow (oStA l lc s)) := by rfl) (hj : j < s.cells.length)
    (k : ∀ P H, S8 xs P0 H0 ow σ P H (ss1.set i (.ow (oStA l lc ⟨s.cells.set j c, s.at_, s.ct⟩))) → XS X rest D σ H)
    (ha : ∀ v, assign (.Subscript o b p) X.env v = (do
      let ov ← holding [v] (eval o X.env)
      let iv ← holding [v, ov] (eval b X.env)
      standAt p
      holding [v, ov, iv] (setItem ov iv v)
      release [v, ov, iv] []) := by intro _; rfl)
    (hw : swapsWithSole [.Subscript o b p] e pos.line X.env = pure false := by rfl) (hw2 : swappedStores [.Subscript o b p] e X.env = pure none := by rfl) (h1 : (assignEach [.Subscript o b p] X.env).map (·.2) = [assign (.Subscript o b p) X.env] := by rfl) :
    XS X (.Assign [.Subscript o b p] e pos :: rest) D σ H := by
  refine w_cons ⟨_, ps_asg (xe (F := C1 X) ()) (pg_sub (xe (F := C1 X) ()) (xe (F := C1 X) ()) set_list ha) hw hw2 h1, ?_⟩
  refine h _ _ _ _ _ _ _ S _ fun v P2 H2 S2 e2 r2 => ?_
  obtain rfl : v = .int (c : Int) := r2
  refine ho _ _ _ _ _ _ _ S2 _ fun w P3 H3 S3 e3 r3 => hb _ _ _ _ _ _ _ S3 _ fun u P4 H4 S4 e4 r4 => ?_
  obtain rfl : w = .ref lc := r3
  obtain ⟨_, hne, hl4, hc4, put⟩ := S4.st hs1
  refine ⟨lc, _, (j : Int), j, rfl, r4, hc4, ixN_nat rfl (by unfold stC; rw [List.length_map]; exact hj), k P4 _ (put _ _ (fun b _ h2 => upd_ne h2) (by rw [upd_ne hne, hl4]; rfl) ?_)⟩
  rw [upd_same]
  unfold stC
  rw [List.map_set]
end
section
variable {Pg : Program} {w : World} {K : PySem.W.Frag} {mg : Str → Option Value} {base : Heap}
abbrev sTk : Stmt := top 33
abbrev nTk : List Str := ["state", "many", "cell"]
theorem scTk : FnScope nTk ["state", "many"] (defScope sTk) := ⟨rfl, rfl, rfl, by decide +kernel, rfl, by decide +kernel, by decide +kernel⟩
abbrev spTk : Sp := spM (fun a : Ste × Nat => oSt a.1) (fun a => [pI (a.2 : Nat)]) (fun a => a.2 < 1073741824) (fun a => pI ((a.1.take a.2).1 : Nat)) (fun a => oSt (a.1.take a.2).2)
theorem ok_Tk (T : Cst K mg) {f : Addr} {fd : FuncData} (F : FnP K "_law_take" sTk f fd) : FnOk Pg w K mg base CX0 1 f fd ["state", "many"] spTk := by
  refine fnM 0 F scTk (fun _ => rfl) fun cdv A outer s H0 Q E hr P0 a v fp σ pre S kQ => ?_
  obtain ⟨st, many⟩ := a
  dsimp only at pre S kQ
  -- the state's own addresses
  obtain ⟨v2, fp2, ev, ⟨h1, h2, l, lc, h3⟩, hk, put⟩ := S.lendM (i := 0) rfl
  subst h1 h2
  obtain ⟨rfl, rfl, hne, hl, hc⟩ := h3
  have S : S8 [l, lc] P0 H0 [l, lc] σ P0 H0 [.ow (oStA l lc st), .pr (pI (many : Nat)), .un] := put P0 H0 (oStA l lc st) (Same.refl _) S.ld (fun _ _ _ e => e) (fun _ _ e => e) (fun b hb => (hk b hb).2) ⟨rfl, rfl, hne, hl, hc⟩
  have fin : ∀ (u : V) (s' : Ste) (ow : List Addr) (σ : L2.St) (P H : Hp) (a1 a2 : Sl), (u = .int ((st.take many).1 : Nat)) → s' = (st.take many).2 → S8 [l, lc] P0 H0 ow σ P H [.ow (oStA l lc s'), a1, a2] → Q u H := by
    intro u s' ow σ P H a1 a2 hu hs' S
    subst hs'
    obtain ⟨v2, fp2, ev, ok, hk, put⟩ := S.lendM (i := 0) rfl
    have ok' := ok
    obtain ⟨h1, h2, _⟩ := ok
    subst h1 h2
    exact kQ u ow σ P H _ (put P H (fixO (oSt (st.take many).2) (.ref l) [l, lc]) (Same.refl _) S.ld (fun _ _ _ e => e) (fun _ _ e => e) (fun b hb => (hk b hb).2) ⟨rfl, rfl, l, lc, ok'⟩) hu
  refine w_stSet 0 (j := 2) (u := .int ((st.ct + 1 : Nat) : Int)) ⟨st.cells, st.at_, st.ct + 1⟩ S (JE.is (je_add (je_stIx (K := K) (j := 2) (u := .int (st.ct : Nat)) 0 (fun _ => pv 0) je_i rfl rfl (fun _ _ => rfl) rfl rfl) je_i) (congrArg (fun z => pI z) (by omega))) (fun _ => pv 0) je_i rfl rfl rfl rfl (fun P H S => ?_)
  refine w_if S (q := decide ((many : Int) < 2)) (jt_cmp (fun _ => op_lt) rv_I0 (je_v 1 fun _ => pv 1) je_i (nomark _)) (fun h P H S => ?_) (fun h P H S => w_nil ?_)
  · have h : many < 2 := by have := of_decide_eq_true h; omega
    have e : st.take many = (0, ⟨st.cells, st.at_, st.ct + 1⟩) := by unfold Ste.take; rw [if_pos h]
    exact w_ret S je_i fun v P H S r => fin _ _ _ _ _ _ _ _ (by rw [e]; exact r) (by rw [e]) S
  have h : ¬ many < 2 := by have := of_decide_eq_false h; omega
  have z0 : ∀ {ss : List Sl} {p1 p2 p3 : Pos} {k : Nat} {s' : Ste}, ss[0]? = some (.ow (oStA l lc s')) → JE (C1 (cxOf CX0 Pg w K mg base nTk "_law_take" (defScope sTk) f cdv A outer s H0 E).nox) (.Subscript (.Name "state" p1) (.Constant (.int 0) k p2) p3) ss (pV (.ref lc)) ss := fun {ss p1 p2 p3 k s'} hs => je_stIx (K := K) (j := 0) 0 (fun _ => pv 0) je_i hs hs (fun _ _ => rfl) rfl rfl
  have z1 : ∀ {ss : List Sl} {p1 p2 p3 : Pos} {k : Nat} {s' : Ste}, ss[0]? = some (.ow (oStA l lc s')) → JE (C1 (cxOf CX0 Pg w K mg base nTk "_law_take" (defScope sTk) f cdv A outer s H0 E).nox) (.Subscript (.Name "state" p1) (.Constant (.int 1) k p2) p3) ss (pI (s'.at_ : Nat)) ss := fun {ss p1 p2 p3 k s'} hs => je_stIx (K := K) (j := 1) 0 (fun _ => pv 0) je_i hs hs (fun _ _ => rfl) rfl rfl
  have z2 : ∀ {ss : List Sl} {p1 p2 p3 : Pos} {k : Nat} {s' : Ste}, ss[0]? = some (.ow (oStA l lc s')) → JE (C1 (cxOf CX0 Pg w K mg base nTk "_law_take" (defScope sTk) f cdv A outer s H0 E).nox) (.Subscript (.Name "state" p1) (.Constant (.int 2) k p2) p3) ss (pI (s'.ct : Nat)) ss := fun {ss p1 p2 p3 k s'} hs => je_stIx (K := K) (j := 2) 0 (fun _ => pv 0) je_i hs hs (fun _ _ => rfl) rfl rfl
  refine w_if S (q := decide ((st.at_ : Int) < st.cells.length)) (jt_cmp (fun _ => op_lt) rv_I0 (z1 (s' := ⟨st.cells, st.at_, st.ct + 1⟩) rfl) (je_stLen (K := K) (s := ⟨st.cells, st.at_, st.ct + 1⟩) 0 (z0 rfl) rfl fun _ => T.bt.len) (nomark _)) (fun h2 P H S => ?_) (fun h2 P H S => w_nil ?_)
  · have h2 : st.at_ < st.cells.length := by have := of_decide_eq_true h2; omega
    obtain ⟨c, hc⟩ : ∃ c, st.cells[st.at_]? = some c := ⟨_, List.getElem?_eq_getElem h2⟩
    have e : st.take many = (c % many, ⟨st.cells.set st.at_ (c / many), if c < many then st.at_ + 1 else st.at_, st.ct + 1⟩) := by unfold Ste.take; rw [if_neg h, hc]
    refine w_asg 2 (R := pI (c : Int)) S (je_stCell (K := K) (s := ⟨st.cells, st.at_, st.ct + 1⟩) 0 (z0 (s' := ⟨st.cells, st.at_, st.ct + 1⟩) rfl) (z1 (s' := ⟨st.cells, st.at_, st.ct + 1⟩) rfl) rfl (fun _ _ => rfl) hc) (fun ow σ P H S => ?_) scTk.nd
    refine w_stCell 0 (s := ⟨st.cells, st.at_, st.ct + 1⟩) (c := c / many) S (JE.is (je_fdiv (je_v 2 fun _ => pv 2) (je_v 1 fun _ => pv 1) ⟨by omega, by omega⟩) (congrArg (fun z => pI z) (show (c : Int) / (many : Int) = ((c / many : Nat) : Int) from rfl))) (z0 (s' := ⟨st.cells, st.at_, st.ct + 1⟩) rfl) (z1 (s' := ⟨st.cells, st.at_, st.ct + 1⟩) rfl) rfl h2 (fun P H S => ?_)
    have rt : ∀ (ow : List Addr) (σ : L2.St) (P H : Hp) (s' : Ste), s' = (st.take many).2 → S8 [l, lc] P0 H0 ow σ P H [.ow (oStA l lc s'), .pr (pI (many : Nat)), .pr (pI (c : Int))] → XS (cxOf CX0 Pg w K mg base nTk "_law_take" (defScope sTk) f cdv A outer s H0 E).nox (match defBody sTk with | [_, _, .If _ [_, _, _, r] _ _, _] => [r] | _ => []) { nx := XS (cxOf CX0 Pg w K mg base nTk "_law_take" (defScope sTk) f cdv A outer s H0 E).nox ((defBody sTk).drop 3) { nx := fun _ H' => Q .non H', rt := Q }, rt := Q } σ H := by
      intro ow σ P H s' hs' S
      refine w_ret S (je_mod (je_int (je_v 2 fun _ => pv 2) (fun _ => T.bt.int)) (je_v 1 fun _ => pv 1) (by omega)) fun v P H S r => fin _ _ _ _ _ _ _ _ ?_ hs' S
      rw [e]
      obtain rfl := r
      show V.int _ = V.int _
      congr 1
    refine w_if S (q := decide ((c : Int) < many)) (jt_cmp (fun _ => op_lt) rv_I0 (je_v 2 fun _ => pv 2) (je_v 1 fun _ => pv 1) (nomark _)) (fun h3 P H S => ?_) (fun h3 P H S => w_nil ?_)
    · have h3 : c < many := by have := of_decide_eq_true h3; omega
      refine w_stSet 0 (j := 1) (u := .int ((st.at_ + 1 : Nat) : Int)) ⟨st.cells.set st.at_ (c / many), st.at_ + 1, st.ct + 1⟩ S (JE.is (je_add (z1 (s' := ⟨st.cells.set st.at_ (c / many), st.at_, st.ct + 1⟩) rfl) je_i) (congrArg (fun z => pI z) (show (st.at_ : Int) + 1 = ((st.at_ + 1 : Nat) : Int) from rfl))) (fun _ => pv 0) je_i rfl rfl rfl rfl (fun P H S => w_nil ?_)
      exact rt _ _ _ _ _ (by rw [e, if_pos h3]) S
    · have h3 : ¬ c < many := by have := of_decide_eq_false h3; omega
      exact rt _ _ _ _ _ (by rw [e, if_neg h3]) S
  · have h2 : ¬ st.at_ < st.cells.length := by have := of_decide_eq_false h2; omega
    have e : st.take many = ((st.ct + 1) * 48271 % 65537 % many, ⟨st.cells, st.at_, st.ct + 1⟩) := by
      unfold Ste.take
      rw [if_neg h, List.getElem?_eq_none (by omega)]
    refine w_ret S (je_mod (je_int (je_mod (je_int (je_mul (z2 (s' := ⟨st.cells, st.at_, st.ct + 1⟩) rfl) je_i (.inr ⟨by omega, by omega⟩)) (fun _ => T.bt.int)) je_i (by omega)) (fun _ => T.bt.int)) (je_v 1 fun _ => pv 1) (by omega)) fun v P H S r => fin _ _ _ _ _ _ _ _ ?_ (by rw [e]) S
    rw [e]
    obtain rfl := r
    show V.int _ = V.int _
    congr 1
end
end K74
/-! the draws: _law_draw_blocks, _law_like, _law_draw_place -/
namespace K74
open PySem PySem.Spec PyProof.Rows L2 Ly M74
theorem take_le (s : Ste) (many : Nat) : (s.take many).1 < max many 1 := by
  unfold Ste.take
  split
  · show 0 < _
    omega
  · rename_i h
    split
    · exact Nat.lt_of_lt_of_le (Nat.mod_lt _ (by omega)) (Nat.le_max_left _ _)
    · exact Nat.lt_of_lt_of_le (Nat.mod_lt _ (by omega)) (Nat.le_max_left _ _)
theorem take_lt (s : Ste) {many : Nat} (h : 0 < many) : (s.take many).1 < many := by
  have := take_le s many
  omega
def dStep (most : Nat) (a : Ln × Ste) : Ln × Ste :=
  if (a.2.take 9).1 < 4 then (a.1 ++ [if (a.2.take 9).1 % 2 = 0 then .up else .dn], (a.2.take 9).2)
  else (a.1 ++ [.n (1 + ((a.2.take 9).2.take most).1)], ((a.2.take 9).2.take most).2)
def dIter (most : Nat) (a : Ln × Ste) : Nat → Ln × Ste
  | 0 => a
  | n + 1 => dStep most (dIter most a n)
def drawBs (most : Nat) (s : Ste) : Ln × Ste := dIter most ([], (s.take 4).2) (s.take 4).1
theorem dIter_len (most : Nat) (a : Ln × Ste) : ∀ n, (dIter most a n).1.length = a.1.length + n
  | 0 => rfl
  | n + 1 => by
    have ih := dIter_len most a n
    show (dStep most (dIter most a n)).1.length = _
    unfold dStep
    split
    · rw [List.length_append, ih]; rfl
    · rw [List.length_append, ih]; rfl
section
variable {Pg : Program} {w : World} {K : PySem.W.Frag} {mg : Str → Option Value} {base : Heap}
abbrev cTk (Pg : Program) (w : World) (K : PySem.W.Frag) (mg : Str → Option Value) (base : Heap) (k : Nat) : Prop := ∀ A : Around, Room k A → Cal Pg w K mg base A "_law_take" spTk
/-! ### _law_draw_blocks -/
abbrev sDB : Stmt := top 41
abbrev nDB : List Str := ["state", "most", "blocks", "k", "way"]
theorem scDB : FnScope nDB ["state", "most"] (defScope sDB) := ⟨rfl, rfl, rfl, by decide +kernel, rfl, by decide +kernel, by decide +kernel⟩
abbrev spDB : Sp := spM (fun a : Ste × Nat => oSt a.1) (fun a => [pI (a.2 : Nat)]) (fun a => 2 ≤ a.2 ∧ a.2 < 1073741824) (fun a => pL ((drawBs a.2 a.1).1.map pK)) (fun a => oSt (drawBs a.2 a.1).2)
theorem ok_DB (T : Cst K mg) {f : Addr} {fd : FuncData} (F : FnP K "_law_draw_blocks" sDB f fd) (cT : cTk Pg w K mg base 1) : FnOk Pg w K mg base CX0 2 f fd ["state", "most"] spDB := by
  refine fnM 1 F scDB (fun _ => rfl) fun cdv A outer s H0 Q E hr P0 a va fp σ pre S kQ => ?_
  obtain ⟨st, most⟩ := a
  obtain ⟨hm2, hmm⟩ := pre
  dsimp only at hm2 hmm S kQ
  have h4 := take_lt st (many := 4) (by decide)
  refine w_asgF 2 S (jf_lst ja_nil) (fun ow σ P H S => ?_) scDB.nd
  refine w_for (ys := List.range (st.take 4).1) (r := fun i : Nat => pI (i : Int)) S (JI.is (ji_range (je_callM 0 (fun _ => cT _ hr) (st, 4) (fun _ => pv 0) (ja_cons je_i ja_nil) (by show 4 < 1073741824; decide)) (by show -(2 ^ 62) ≤ (((st.take 4).1 : Nat) : Int); omega) (by show (((st.take 4).1 : Nat) : Int) < 2 ^ 62; omega) (hm := fun _ => T.bt.range)) (by
      show (List.range (((st.take 4).1 : Nat) : Int).toNat).map _ = _
      rw [Int.toNat_natCast]
      exact List.map_congr_left fun i _ => congrArg (fun z => pI z) (by omega))) (fun y => jg_name 3 fun _ => pg_name scDB.nd rfl (by first | exact .inl rfl | exact .inr rfl))
    (fun pre => [.ow (fixO (oSt (dIter most ([], (st.take 4).2) pre.length).2) va fp), .pr (pI most), .ow (oL ((dIter most ([], (st.take 4).2) pre.length).1.map pK)), .un, .un]) (Wk.refl _) (by simp) ?_ ?_
  · intro xs' P0' H0' _ pre k post hys ow σ P H S
    obtain ⟨rfl, hi⟩ := range_ix hys
    have hlen := dIter_len most ([], (st.take 4).2) pre.length
    have enx : dIter most ([], (st.take 4).2) (pre ++ [pre.length]).length = dStep most (dIter most ([], (st.take 4).2) pre.length) := by rw [List.length_append]; rfl
    rw [enx]
    generalize dIter most ([], (st.take 4).2) pre.length = cur at S hlen
    obtain ⟨acc, s1⟩ := cur
    dsimp only at S hlen
    have hal : acc.length ≤ 10 := by
      have : acc.length = 0 + pre.length := hlen
      omega
    have hsz : ∀ {n : Nat}, n ≤ 10 → n < sizeLine := fun h => Nat.lt_of_le_of_lt h (by rw [sizeLine_eq]; decide)
    refine w_asg 4 (R := pI ((s1.take 9).1 : Nat)) S (je_callM 0 (fun _ => cT _ hr) (s1, 9) (fun _ => pv 0) (ja_cons je_i ja_nil) (by show 9 < 1073741824; decide)) (fun ow σ P H S => ?_) scDB.nd
    refine w_if S (q := decide (((s1.take 9).1 : Int) < 4)) (jt_cmp (fun _ => op_lt) rv_I0 (je_v 4 fun _ => pv 4) je_i (nomark _)) (fun h P H S => ?_) (fun h P H S => ?_)
    · have h : (s1.take 9).1 < 4 := by have := of_decide_eq_true h; omega
      refine w_app 2 (R := pK (if (s1.take 9).1 % 2 = 0 then .up else .dn)) S (fun _ => pv 2) (je_ixL (K := K) (Rs := [pS "up", pS "down"]) (j := (s1.take 9).1 % 2) (JF.je (jf_lst (ja_cons je_s (ja_cons je_s ja_nil)))) (je_mod (je_int (je_v 4 fun _ => pv 4) (fun _ => T.bt.int)) je_i (by omega)) (fun _ _ => rfl) (ixN_nat (by omega) (by show _ < 2; omega)) ?_) rfl rfl (by rw [List.length_map]; exact hsz hal) (fun ow P H S => w_nil (w_nil ?_))
      · have h2 : (s1.take 9).1 % 2 = 0 ∨ (s1.take 9).1 % 2 = 1 := by omega
        rcases h2 with e | e
        · rw [e]; rfl
        · rw [e]; rfl
      · unfold dStep
        dsimp only
        rw [if_pos h, List.map_append]
        exact at8 S (.keep (.keep (.keep (.drop (.drop .nil)))))
    · have h : ¬ (s1.take 9).1 < 4 := by have := of_decide_eq_false h; omega
      refine w_app 2 (R := pK (.n (1 + ((s1.take 9).2.take most).1))) S (fun _ => pv 2) (JE.is (je_add je_i (je_callM (R := pI (((s1.take 9).2.take most).1 : Nat)) 0 (fun _ => cT _ hr) ((s1.take 9).2, most) (fun _ => pv 0) (ja_cons (je_v 1 fun _ => pv 1) ja_nil) hmm)) (congrArg (fun z => pI z) (by omega))) rfl rfl (by rw [List.length_map]; exact hsz hal) (fun ow P H S => w_nil (w_nil ?_))
      unfold dStep
      dsimp only
      rw [if_neg h, List.map_append]
      exact at8 S (.keep (.keep (.keep (.drop (.drop .nil)))))
  · intro ow σ P H S
    rw [List.length_range] at S
    obtain ⟨ow, P, S, _, _⟩ := S.still (i := 2) rfl (.inr ⟨0, _, by decide, rfl, fun _ _ _ _ h a ha => by rw [h.2.1]; exact ha⟩)
    exact w_ret S (je_v 2 fun _ => pv 2) fun v P H S r => kQ v _ _ P H _ S r
end
end K74
/-! the draws: _law_like, _law_draw_place -/
namespace K74
open PySem PySem.Spec PyProof.Rows L2 Ly M74
def lkStep (most : Nat) (a : Ln × Ste) (b : Blk) : Ln × Ste :=
  match b with
  | .up => if (a.2.take 6).1 = 0 then (a.1 ++ [.n (1 + ((a.2.take 6).2.take 9).1), .up], ((a.2.take 6).2.take 9).2) else (a.1 ++ [.up], (a.2.take 6).2)
  | .dn => if (a.2.take 6).1 = 0 then (a.1 ++ [.dn, .n (1 + ((a.2.take 6).2.take 9).1)], ((a.2.take 6).2.take 9).2) else (a.1 ++ [.dn], (a.2.take 6).2)
  | .n k => if 3 < (a.2.take 6).1 then (a.1 ++ [.n k], (a.2.take 6).2)
    else if (a.2.take 6).1 = 0 ∧ most ≤ k then (a.1 ++ [.up, .dn], (a.2.take 6).2)
    else if (a.2.take 6).1 = 1 ∧ most ≤ k then (a.1 ++ [.n (max most 1 + ((a.2.take 6).2.take 9).1)], ((a.2.take 6).2.take 9).2)
    else if (a.2.take 6).1 = 2 ∧ 1 < k then (a.1 ++ [.n 1, .n (k - 1)], (a.2.take 6).2)
    else (a.1 ++ [.n (max 1 (k - 1))], (a.2.take 6).2)
def lkBs (most : Nat) (bs : Ln) (s : Ste) : Ln × Ste := bs.foldl (lkStep most) ([], s)
theorem lkStep_len (most : Nat) (a : Ln × Ste) (b : Blk) : (lkStep most a b).1.length ≤ a.1.length + 2 := by
  cases b with
  | up => simp only [lkStep]; split <;> simp
  | dn => simp only [lkStep]; split <;> simp
  | n k =>
    simp only [lkStep]
    split
    · simp
    · split
      · simp
      · split
        · simp
        · split <;> simp
theorem lkFold_len (most : Nat) : ∀ (bs : Ln) (a : Ln × Ste), (bs.foldl (lkStep most) a).1.length ≤ a.1.length + 2 * bs.length
  | [], a => by simp
  | b :: bs, a => by
    have h1 := lkFold_len most bs (lkStep most a b)
    have h2 := lkStep_len most a b
    rw [List.foldl_cons, List.length_cons]
    omega
def drawPl (bs : Ln) (s : Ste) : NP × Ste :=
  let a := s.take bs.length
  let b := a.2.take 16
  let m := match bs[a.1]? with
    | some (.n k) => k
    | _ => if b.1 = 9 then 1001 else 12
  let c := b.2.take m
  ((a.1, c.1), c.2)
section
variable {Pg : Program} {w : World} {K : PySem.W.Frag} {mg : Str → Option Value} {base : Heap}
abbrev sLk : Stmt := top 42
abbrev nLk : List Str := ["state", "blocks", "rounds", "most", "found", "block", "way"]
theorem scLk : FnScope nLk ["state", "blocks", "rounds"] (defScope sLk) := ⟨rfl, rfl, rfl, by decide +kernel, rfl, by decide +kernel, by decide +kernel⟩
structure LkA where
  s : Ste
  bs : Ln
  r : Nat
abbrev spLk : Sp := spM (fun a : LkA => oSt a.s) (fun a => [pL (a.bs.map pK), pI (a.r : Nat)]) (fun a => a.bs.length ≤ 10 ∧ a.r ≤ 4) (fun a => pL ((lkBs (2 ^ a.r - 1) a.bs a.s).1.map pK)) (fun a => oSt (lkBs (2 ^ a.r - 1) a.bs a.s).2)
theorem ok_Lk (T : Cst K mg) {f : Addr} {fd : FuncData} (F : FnP K "_law_like" sLk f fd) (cT : cTk Pg w K mg base 1) : FnOk Pg w K mg base CX0 2 f fd ["state", "blocks", "rounds"] spLk := by
  refine fnM 1 F scLk (fun _ => rfl) fun cdv A outer s H0 Q E hr P0 a va fp σ pre S kQ => ?_
  obtain ⟨st, bs, r⟩ := a
  obtain ⟨hl, hr4⟩ := pre
  dsimp only at hl hr4 S kQ
  have h2 : 2 ^ r ≤ 2 ^ 4 := Nat.pow_le_pow_right (by decide) hr4
  have e4 : 2 ^ 4 = 16 := rfl
  refine w_asg 3 (R := pI (2 ^ r - 1 : Nat)) S (JE.is (je_sub (je_shl je_i (je_v 2 fun _ => pv 2) ⟨by omega, by omega, by decide⟩) je_i) (congrArg (fun z => pI z) (shl_nat r))) (fun ow σ P H S => ?_) scLk.nd
  generalize hm : 2 ^ r - 1 = most at S kQ
  refine w_asgF 4 S (jf_lst ja_nil) (fun ow σ P H S => ?_) scLk.nd
  refine w_for S (ji_list (K := K) (je_v 1 fun _ => pv 1)) (fun y => jg_name 5 fun _ => pg_name scLk.nd rfl (by first | exact .inl rfl | exact .inr rfl))
    (fun pre => [.ow (fixO (oSt (pre.foldl (lkStep most) ([], st)).2) va fp), .pr (pL (bs.map pK)), .pr (pI r), .pr (pI most), .ow (oL ((pre.foldl (lkStep most) ([], st)).1.map pK)), .un, .un]) (Wk.refl _) (by simp) ?_ ?_
  · intro xs' P0' H0' _ pre b post hys ow σ P H S
    have hpl : pre.length ≤ 10 := by
      have : bs.length = pre.length + (post.length + 1) := by rw [hys, List.length_append, List.length_cons]
      omega
    have hal := lkFold_len most pre ([], st)
    rw [List.foldl_append]
    show XS _ _ _ _ _
    generalize pre.foldl (lkStep most) ([], st) = cur at S hal
    obtain ⟨acc, s1⟩ := cur
    dsimp only [List.foldl_cons, List.foldl_nil] at S hal ⊢
    have hal : acc.length ≤ 20 := by
      have : acc.length ≤ 0 + 2 * pre.length := hal
      omega
    have hsz : ∀ {n : Nat}, n ≤ 30 → n < sizeLine := fun h => Nat.lt_of_le_of_lt h (by rw [sizeLine_eq]; decide)
    have hsz2 : acc.length + 2 ≤ sizeLine := by rw [sizeLine_eq]; omega
    refine w_asg 6 (R := pI ((s1.take 6).1 : Nat)) S (je_callM 0 (fun _ => cT _ hr) (s1, 6) (fun _ => pv 0) (ja_cons je_i ja_nil) (by show 6 < 1073741824; decide)) (fun ow σ P H S => ?_) scLk.nd
    have S : S8 xs' P0' H0' ow σ P H [.ow (fixO (oSt (s1.take 6).2) va fp), .pr (pL (bs.map pK)), .pr (pI r), .pr (pI most), .ow (oL (acc.map pK)), .pr (pK b), .pr (pI ((s1.take 6).1 : Nat))] := S
    generalize hs2 : (s1.take 6).2 = s2 at S
    generalize hwy : (s1.take 6).1 = way at S
    have t9 : ∀ (ss : List Sl) (p1 p2 p3 : Pos) (k : Nat), ss[0]? = some (.ow (fixO (oSt s2) va fp)) → JE (C1 (cxOf CX0 Pg w K mg base nLk "_law_like" (defScope sLk) f cdv A outer s H0 E).nox) (.Call (.Name "_law_take" p1) [.Name "state" p2, .Constant (.int 9) k p3] [] p3) ss (pI ((s2.take 9).1 : Nat)) ss → True := fun _ _ _ _ _ _ _ => trivial
    have fin : ∀ {ow : List Addr} {σ : L2.St} {P H : Hp} (l : Ln) (s' : Ste) (a5 a6 : Sl), S8 xs' P0' H0' ow σ P H [.ow (fixO (oSt s') va fp), .pr (pL (bs.map pK)), .pr (pI r), .pr (pI most), .ow (oL (l.map pK)), a5, a6] → (l, s') = lkStep most (acc, s1) b → At8 xs' P0' H0' [.ow (fixO (oSt (lkStep most (acc, s1) b).2) va fp), .pr (pL (bs.map pK)), .pr (pI r), .pr (pI most), .ow (oL ((lkStep most (acc, s1) b).1.map pK)), .un, .un] σ H := fun l s' a5 a6 S e => by
      rw [← e]
      exact at8 S (.keep (.keep (.keep (.keep (.keep (.drop (.drop .nil)))))))
    have w0 : ∀ {p1 p2 p3 : Pos} {k : Nat} {ss : List Sl}, ss[6]? = some (.pr (pI (way : Nat))) → JT (C1 (cxOf CX0 Pg w K mg base nLk "_law_like" (defScope sLk) f cdv A outer s H0 E).nox) (.Compare (.Name "way" p1) [.Eq] [.Constant (.int 0) k p2] p3) ss (decide (way = 0)) ss := fun {p1 p2 p3 k ss} h => JT.is (jt_cmp (fun _ => op_eq) rv_eqI (je_v 6 (fun _ => pv 6) h) je_i (nomark _)) (decide_eq_decide.mpr (by omega))
    have w1 : ∀ {p1 p2 p3 : Pos} {k : Nat} {ss : List Sl}, ss[6]? = some (.pr (pI (way : Nat))) → JT (C1 (cxOf CX0 Pg w K mg base nLk "_law_like" (defScope sLk) f cdv A outer s H0 E).nox) (.Compare (.Name "way" p1) [.Eq] [.Constant (.int 1) k p2] p3) ss (decide (way = 1)) ss := fun {p1 p2 p3 k ss} h => JT.is (jt_cmp (fun _ => op_eq) rv_eqI (je_v 6 (fun _ => pv 6) h) je_i (nomark _)) (decide_eq_decide.mpr (by omega))
    have w2 : ∀ {p1 p2 p3 : Pos} {k : Nat} {ss : List Sl}, ss[6]? = some (.pr (pI (way : Nat))) → JT (C1 (cxOf CX0 Pg w K mg base nLk "_law_like" (defScope sLk) f cdv A outer s H0 E).nox) (.Compare (.Name "way" p1) [.Eq] [.Constant (.int 2) k p2] p3) ss (decide (way = 2)) ss := fun {p1 p2 p3 k ss} h => JT.is (jt_cmp (fun _ => op_eq) rv_eqI (je_v 6 (fun _ => pv 6) h) je_i (nomark _)) (decide_eq_decide.mpr (by omega))
    refine w_if S (q := decide (way = 0) && decide (b = .up)) (jt_w (jw_and (w0 rfl) fun _ => jw_and1 (JT.is (jt_cmp (fun _ => op_eq) (rv_eq (kb_scal _ _)) (je_v 5 fun _ => pv 5) je_s (nomark _)) (kb_up b)))) (fun h P H S => ?_) (fun h P H S => ?_)
    · have h : way = 0 ∧ b = .up := by simpa using h
      obtain ⟨hw, rfl⟩ := h
      refine w_asgF 4 (Rs := (acc ++ [Blk.n (1 + (s2.take 9).1), Blk.up]).map pK) S (jfIs (jf_catO (Ss := [pK (.n (1 + (s2.take 9).1)), pK .up]) 4 (fun _ => pv 4) (JF.je (jf_lst (ja_cons (JE.is (je_add je_i (je_callM (R := pI ((s2.take 9).1 : Nat)) 0 (fun _ => cT _ hr) (s2, 9) (fun _ => pv 0) (ja_cons je_i ja_nil) (by show 9 < 1073741824; decide))) (congrArg (fun z => pI z) (by omega))) (ja_cons je_s ja_nil)))) rfl rfl (by rw [List.length_map]; exact hsz2)) (by rw [List.map_append]; rfl)) (fun ow σ P H S => w_nil (w_nil (fin _ _ _ _ S ?_))) scLk.nd
      simp only [lkStep, hwy, hs2, hw, if_true]
    refine w_if S (q := decide (way = 0) && decide (b = .dn)) (jt_w (jw_and (w0 rfl) fun _ => jw_and1 (JT.is (jt_cmp (fun _ => op_eq) (rv_eq (kb_scal _ _)) (je_v 5 fun _ => pv 5) je_s (nomark _)) (kb_dn b)))) (fun h2 P H S => ?_) (fun h2 P H S => ?_)
    · have h2 : way = 0 ∧ b = .dn := by simpa using h2
      obtain ⟨hw, rfl⟩ := h2
      refine w_asgF 4 (Rs := (acc ++ [Blk.dn, Blk.n (1 + (s2.take 9).1)]).map pK) S (jfIs (jf_catO (Ss := [pK .dn, pK (.n (1 + (s2.take 9).1))]) 4 (fun _ => pv 4) (JF.je (jf_lst (ja_cons je_s (ja_cons (JE.is (je_add je_i (je_callM (R := pI ((s2.take 9).1 : Nat)) 0 (fun _ => cT _ hr) (s2, 9) (fun _ => pv 0) (ja_cons je_i ja_nil) (by show 9 < 1073741824; decide))) (congrArg (fun z => pI z) (by omega))) ja_nil)))) rfl rfl (by rw [List.length_map]; exact hsz2)) (by rw [List.map_append]; rfl)) (fun ow σ P H S => w_nil (w_nil (w_nil (fin _ _ _ _ S ?_)))) scLk.nd
      simp only [lkStep, hwy, hs2, hw, if_true]
    have hnz : isE b = true → way ≠ 0 := fun he hz => by
      subst hz
      cases b with
      | n k => exact absurd he (by simp [isE])
      | up => exact absurd h (by decide)
      | dn => exact absurd h2 (by decide)
    refine w_if S (q := isE b || decide (3 < way)) (jt_w (jw_or (jt_val (je_isi (K := K) (t := ty b) (T := "str") (je_v 5 fun _ => pv 5) (fun P H v _ e => by obtain rfl := e; exact kb_ty b) (kit_b b) (fun _ => T.bt.isinstance) (fun _ => T.bt.str) (by decide +kernel))) fun _ => jw_or1 (JT.is (jt_cmp (fun _ => op_gt) rv_I0 (je_v 6 fun _ => pv 6) je_i (nomark _)) (decide_eq_decide.mpr (by omega))))) (fun h3 P H S => ?_) (fun h3 P H S => ?_)
    · refine w_app 4 S (fun _ => pv 4) (je_v 5 fun _ => pv 5) rfl rfl (by rw [List.length_map]; exact hsz (by omega)) (fun ow P H S => w_nil (w_nil (w_nil (w_nil (fin (acc ++ [b]) _ _ _ (by rw [List.map_append]; exact S) ?_)))))
      cases b with
      | n k =>
        have h3 : 3 < way := by simpa [isE] using h3
        simp only [lkStep, hwy, hs2, if_pos h3]
      | up => simp only [lkStep, hwy, hs2, if_neg (hnz rfl)]
      | dn => simp only [lkStep, hwy, hs2, if_neg (hnz rfl)]
    obtain ⟨k, rfl⟩ : ∃ k, b = .n k := by cases b <;> first | exact ⟨_, rfl⟩ | exact absurd h3 (by simp [isE])
    have h3 : ¬ 3 < way := by simpa [isE] using h3
    have gm : ∀ {p1 p2 p3 : Pos} {ss : List Sl}, ss[5]? = some (.pr (pK (.n k))) → ss[3]? = some (.pr (pI most)) → JT (C1 (cxOf CX0 Pg w K mg base nLk "_law_like" (defScope sLk) f cdv A outer s H0 E).nox) (.Compare (.Name "block" p1) [.GtE] [.Name "most" p2] p3) ss (decide (most ≤ k)) ss := fun {p1 p2 p3 ss} g5 g3 => JT.is (jt_cmp (fun _ => op_ge) rv_I0 (je_v 5 (fun _ => pv 5) g5) (je_v 3 (fun _ => pv 3) g3) (nomark _)) (decide_eq_decide.mpr (by omega))
    refine w_if S (q := decide (way = 0) && decide (most ≤ k)) (jt_w (jw_and (w0 rfl) fun _ => jw_and1 (gm rfl rfl))) (fun h4 P H S => ?_) (fun h4 P H S => ?_)
    · have h4 : way = 0 ∧ most ≤ k := by simpa using h4
      refine w_asgF 4 (Rs := (acc ++ [Blk.up, Blk.dn]).map pK) S (jfIs (jf_catO (Ss := [pK .up, pK .dn]) 4 (fun _ => pv 4) (JF.je (jf_lst (ja_cons je_s (ja_cons je_s ja_nil)))) rfl rfl (by rw [List.length_map]; exact hsz2)) (by rw [List.map_append]; rfl)) (fun ow σ P H S => w_nil (w_nil (w_nil (w_nil (w_nil (fin _ _ _ _ S ?_)))))) scLk.nd
      simp only [lkStep, hwy, hs2, if_neg h3, if_pos h4]
    have h4 : ¬ (way = 0 ∧ most ≤ k) := by simpa using h4
    refine w_if S (q := decide (way = 1) && decide (most ≤ k)) (jt_w (jw_and (w1 rfl) fun _ => jw_and1 (gm rfl rfl))) (fun h5 P H S => ?_) (fun h5 P H S => ?_)
    · have h5 : way = 1 ∧ most ≤ k := by simpa using h5
      refine w_app 4 (R := pK (.n (max most 1 + (s2.take 9).1))) S (fun _ => pv 4) (JE.is (je_add (je_max2 (je_v 3 fun _ => pv 3) je_i (fun _ => T.bt.max)) (je_callM (R := pI ((s2.take 9).1 : Nat)) 0 (fun _ => cT _ hr) (s2, 9) (fun _ => pv 0) (ja_cons je_i ja_nil) (by show 9 < 1073741824; decide))) (congrArg (fun z => pI z) (by omega))) rfl rfl (by rw [List.length_map]; exact hsz (by omega)) (fun ow P H S => w_nil (w_nil (w_nil (w_nil (w_nil (w_nil (fin (acc ++ [Blk.n (max most 1 + (s2.take 9).1)]) _ _ _ (by rw [List.map_append]; exact S) ?_)))))))
      simp only [lkStep, hwy, hs2, if_neg h3, if_neg h4, if_pos h5]
    have h5 : ¬ (way = 1 ∧ most ≤ k) := by simpa using h5
    refine w_if S (q := decide (way = 2) && decide (1 < k)) (jt_w (jw_and (w2 rfl) fun _ => jw_and1 (JT.is (jt_cmp (fun _ => op_gt) rv_I0 (je_v 5 fun _ => pv 5) je_i (nomark _)) (decide_eq_decide.mpr (by omega))))) (fun h6 P H S => ?_) (fun h6 P H S => ?_)
    · have h6 : way = 2 ∧ 1 < k := by simpa using h6
      refine w_asgF 4 (Rs := (acc ++ [Blk.n 1, Blk.n (k - 1)]).map pK) S (jfIs (jf_catO (Ss := [pK (.n 1), pK (.n (k - 1))]) 4 (fun _ => pv 4) (JF.je (jf_lst (ja_cons je_i (ja_cons (JE.is (je_sub (je_v 5 fun _ => pv 5) je_i) (congrArg (fun z => pI z) (by omega))) ja_nil)))) rfl rfl (by rw [List.length_map]; exact hsz2)) (by rw [List.map_append]; rfl)) (fun ow σ P H S => w_nil (w_nil (w_nil (w_nil (w_nil (w_nil (w_nil (fin _ _ _ _ S ?_)))))))) scLk.nd
      simp only [lkStep, hwy, hs2, if_neg h3, if_neg h4, if_neg h5, if_pos h6]
    have h6 : ¬ (way = 2 ∧ 1 < k) := by simpa using h6
    refine w_app 4 (R := pK (.n (max 1 (k - 1)))) S (fun _ => pv 4) (JE.is (je_max2 je_i (je_sub (je_v 5 fun _ => pv 5) je_i) (fun _ => T.bt.max)) (congrArg (fun z => pI z) (by omega))) rfl rfl (by rw [List.length_map]; exact hsz (by omega)) (fun ow P H S => w_nil (w_nil (w_nil (w_nil (w_nil (w_nil (w_nil (fin (acc ++ [Blk.n (max 1 (k - 1))]) _ _ _ (by rw [List.map_append]; exact S) ?_))))))))
    simp only [lkStep, hwy, hs2, if_neg h3, if_neg h4, if_neg h5, if_neg h6]
  · intro ow σ P H S
    obtain ⟨ow, P, S, _, _⟩ := S.still (i := 4) rfl (.inr ⟨0, _, by decide, rfl, fun _ _ _ _ h a ha => by rw [h.2.1]; exact ha⟩)
    exact w_ret S (je_v 4 fun _ => pv 4) fun v P H S r => kQ v _ _ P H _ S r
/-! ### _law_draw_place -/
abbrev sDP : Stmt := top 43
abbrev nDP : List Str := ["state", "blocks", "at", "many"]
theorem scDP : FnScope nDP ["state", "blocks"] (defScope sDP) := ⟨rfl, rfl, rfl, by decide +kernel, rfl, by decide +kernel, by decide +kernel⟩
abbrev spDP (K : PySem.W.Frag) : Sp := spM (fun a : Ste × Ln => oSt a.1) (fun a => [pL (a.2.map pK)]) (fun a => a.2 ≠ [] ∧ a.2.length ≤ 1000 ∧ ∀ k, Blk.n k ∈ a.2 → k ≤ 1000) (fun a => pP2 K (drawPl a.2 a.1).1) (fun a => oSt (drawPl a.2 a.1).2)
theorem ok_DP (T : Cst K mg) {f : Addr} {fd : FuncData} (F : FnP K "_law_draw_place" sDP f fd) (cT : cTk Pg w K mg base 1) : FnOk Pg w K mg base CX0 2 f fd ["state", "blocks"] (spDP K) := by
  refine fnM 1 F scDP (fun _ => rfl) fun cdv A outer s H0 Q E hr P0 a va fp σ pre S kQ => ?_
  obtain ⟨st, bs⟩ := a
  obtain ⟨hne, hl, hk⟩ := pre
  dsimp only at hne hl hk S kQ
  have hpos := List.length_pos_iff.mpr hne
  have hat := take_lt st hpos
  obtain ⟨b, hb⟩ : ∃ b, bs[(st.take bs.length).1]? = some b := ⟨_, List.getElem?_eq_getElem hat⟩
  refine w_asg 2 (R := pI ((st.take bs.length).1 : Nat)) S (je_callM 0 (fun _ => cT _ hr) (st, bs.length) (fun _ => pv 0) (ja_cons (JE.is (je_lenL (K := K) (je_v 1 fun _ => pv 1) (fun _ => T.bt.len)) (congrArg (fun z : Nat => pI (z : Int)) (List.length_map _))) ja_nil) (by show bs.length < 1073741824; omega)) (fun ow σ P H S => ?_) scDP.nd
  have S : S8 fp P0 H0 ow σ P H [.ow (fixO (oSt (st.take bs.length).2) va fp), .pr (pL (bs.map pK)), .pr (pI ((st.take bs.length).1 : Nat)), .un] := S
  generalize hs1 : (st.take bs.length).2 = s1 at S
  generalize hi : (st.take bs.length).1 = i at S hat hb
  refine w_asg 3 (ss1 := [.ow (fixO (oSt (s1.take 16).2) va fp), .pr (pL (bs.map pK)), .pr (pI (i : Nat)), .un]) (R := pI ((if (s1.take 16).1 = 9 then 1001 else 12 : Nat) : Int)) S (je_ifS (q := decide ((s1.take 16).1 = 9)) (JT.is (jt_cmp (fun _ => op_eq) rv_eqI (je_callM (R := pI ((s1.take 16).1 : Nat)) 0 (fun _ => cT _ hr) (s1, 16) (fun _ => pv 0) (ja_cons je_i ja_nil) (by show 16 < 1073741824; decide)) je_i (nomark _)) (decide_eq_decide.mpr (by omega))) (fun h => ?_) (fun h => ?_)) (fun ow σ P H S => ?_) scDP.nd
  · have h : (s1.take 16).1 = 9 := of_decide_eq_true h
    rw [if_pos h]
    exact je_i
  · have h : ¬ (s1.take 16).1 = 9 := of_decide_eq_false h
    rw [if_neg h]
    exact je_i
  have S : S8 fp P0 H0 ow σ P H [.ow (fixO (oSt (s1.take 16).2) va fp), .pr (pL (bs.map pK)), .pr (pI (i : Nat)), .pr (pI ((if (s1.take 16).1 = 9 then 1001 else 12 : Nat) : Int))] := S
  let m : Nat := match b with
    | .n k => k
    | _ => if (s1.take 16).1 = 9 then 1001 else 12
  have hm : m ≤ 1001 := by
    cases b with
    | n k =>
      have := hk k (List.mem_of_getElem? hb)
      show k ≤ 1001
      omega
    | up => show (if (s1.take 16).1 = 9 then 1001 else 12) ≤ 1001; split <;> omega
    | dn => show (if (s1.take 16).1 = 9 then 1001 else 12) ≤ 1001; split <;> omega
  have ed : drawPl bs st = ((i, ((s1.take 16).2.take m).1), ((s1.take 16).2.take m).2) := by
    have em : (match bs[(st.take bs.length).1]? with
      | some (.n k) => k
      | _ => if ((st.take bs.length).2.take 16).1 = 9 then 1001 else 12) = m := by
      rw [hi, hb, hs1]
      cases b <;> rfl
    show (((st.take bs.length).1, (((st.take bs.length).2.take 16).2.take (match bs[(st.take bs.length).1]? with
      | some (.n k) => k
      | _ => if ((st.take bs.length).2.take 16).1 = 9 then 1001 else 12)).1), (((st.take bs.length).2.take 16).2.take (match bs[(st.take bs.length).1]? with
      | some (.n k) => k
      | _ => if ((st.take bs.length).2.take 16).1 = 9 then 1001 else 12)).2) = _
    rw [em, hi, hs1]
  refine w_ifJ [.ow (fixO (oSt (s1.take 16).2) va fp), .pr (pL (bs.map pK)), .pr (pI (i : Nat)), .pr (pI (m : Nat))] S (q := !isE b) (jt_not (jt_val (je_isi (K := K) (t := ty b) (T := "str") (je_ixL (K := K) (R := pK b) (je_v 1 fun _ => pv 1) (je_v 2 fun _ => pv 2) (fun _ _ => rfl) (bs_ix hb).1 (bs_ix hb).2) (fun P H v _ e => by obtain rfl := e; exact kb_ty b) (kit_b b) (fun _ => T.bt.isinstance) (fun _ => T.bt.str) (by decide +kernel)))) (fun h P H S => ?_) (fun h P H S => w_nil ?_) (fun ow σ P H S => ?_)
  · obtain ⟨k, rfl⟩ : ∃ k, b = .n k := by cases b <;> first | exact ⟨_, rfl⟩ | exact absurd h (by simp [isE])
    exact w_asg 3 (R := pI (k : Nat)) S (je_ixL (K := K) (R := pK (.n k)) (je_v 1 fun _ => pv 1) (je_v 2 fun _ => pv 2) (fun _ _ => rfl) (bs_ix hb).1 (bs_ix hb).2) (fun ow σ P H S => w_nil (at8 S (Wk.refl _))) scDP.nd
  · have e : m = if (s1.take 16).1 = 9 then 1001 else 12 := by cases b <;> first | rfl | exact absurd h (by simp [isE])
    rw [e]
    exact at8 S (Wk.refl _)
  · rw [ed] at kQ
    refine w_ret S (je_tup K (ja_cons (je_v 2 fun _ => pv 2) (ja_cons (je_callM (R := pI (((s1.take 16).2.take m).1 : Nat)) 0 (fun _ => cT _ hr) ((s1.take 16).2, m) (fun _ => pv 0) (ja_cons (je_v 3 fun _ => pv 3) ja_nil) (by show m < 1073741824; omega)) ja_nil))) fun v P H S r => kQ v _ _ P H _ S r
end
end K74
/-! Text times int, max of a list, fresh results, a slot's own object as data for a while. -/
namespace Ly
open PySem PySem.Spec PyProof.Rows L2
section
variable {X : Cx}
def rMulS : R2 := fun x y H Q => ∃ (a : Str) (k : Int), x = .str a ∧ y = .int k ∧ MulOk a k ∧ Q (.str (Txt.mul a k)) H
theorem op_mulS : OpR X (binaryOp .Mult) rMulS := by
  intro pins s σ H x y v u Q I rx ry h
  obtain ⟨a, k, rfl, rfl, hok, q⟩ := h
  obtain ⟨t, rfl⟩ := rx
  obtain ⟨t', rfl⟩ := ry
  exact SB.mul hok fun t2 k2 => ⟨.str _, H, I.tok _, ⟨_, rfl⟩, q⟩
end
section
variable {ι : Type} {F : ι → Cx} {K : PySem.W.Frag} {ss ss1 ss2 : List Sl} {R : Pr} {Rs : List Pr} {x : Str} {a b e : Expr} {es : List Expr} {pos p : Pos}
theorem je_mulS {u : Str} {k : Int} (ha : JE F a ss (pS u) ss1) (hb : JE F b ss1 (pI k) ss2) (h : MulOk u k) : JE F (.BinOp a .Mult b pos) ss (pS (Txt.mul u k)) ss2 :=
  je_op (fun _ => op_mulS) (rv0 fun P H x y Q l r1 r2 kk => ⟨u, k, r1, r2, h, kk _ rfl⟩) ha hb
/-- max(xs), xs a list of ints -/
theorem je_maxL {ns : List Int} {m : Int} (ha : JE F e ss (pL (ns.map fun n => pI n)) ss1) (hm1 : m ∈ ns) (hm2 : ∀ y ∈ ns, y ≤ m) (hm : ∀ i, (F i).mg "max" = none) (hg : ∀ i, Gl (F i) "max" := by intro _; rfl) (he : ∀ i, starEach [e] (F i).env = (false, eval e (F i).env) :: starEach [] (F i).env := by intro _; rfl)
    (hpl : ∀ i, (backTo pos (starEach [] (F i).env)).any (·.1) = false := by intro _; rfl) (hK : ∀ i, (F i).K = K := by intro _; rfl) (hc : ∀ i, (F i).calm = true := by intro _; rfl) : JE F (.Call (.Name "max" p) [e] [] pos) ss (pI m) ss1 :=
  je_cb (r := rMax K) (fun i => hK i ▸ cr_max (hc i)) (fun P H vs Q l r k => by
    obtain ⟨v, rfl, r1⟩ := pl1 r
    obtain ⟨a, ys, rfl, h2, h3⟩ := r1
    have e : ys = ns.map V.int := by
      have h : PL P ((ns.map V.int).map pV) ys := by rw [List.map_map]; exact h3
      exact h.scal
    subst e
    refine ⟨a, ns, rfl, .inl (l.rd h2), List.length_pos_of_mem hm1, fun m' h1 h2 => ?_⟩
    have : m' = m := by
      have := h2 m hm1
      have := hm2 m' h1
      omega
    subst this
    exact k _ P H (Gr.refl l) rfl) (ja_cons ha ja_nil he) hm (by decide +kernel) hg (by decide) (by decide) he hpl
end
/-! ### fresh results -/
def spN {α : Type} (ar : α → List Pr) (pre : α → Prop) (O : α → Ow) : Sp := fun vs H Q _ => ∃ (P : Hp) (a : α), Ld P H ∧ pre a ∧ PL P (ar a) vs ∧
  ∀ v fp P2 H2, Gr P H P2 H2 → (∀ b ∈ fp, H b = none ∧ P2 b = none ∧ H2 b ≠ none) → (O a).ok P2 H2 v fp → Q v H2
section
variable {ι : Type} {F : ι → Cx} {K : PySem.W.Frag} {ss ss1 ss2 : List Sl} {R : Pr} {Rs : List Pr} {x : Str} {e : Expr} {es : List Expr} {pos p : Pos}
theorem jn_callN {α : Type} {ar : α → List Pr} {pre : α → Prop} {O : α → Ow} (c : ∀ i, CalX (F i) x (spN ar pre O)) (a : α) (ha : JA F (e :: es) ss Rs ss1) (hp : pre a) (hA : ar a = Rs := by rfl)
    (hg : ∀ i, Gl (F i) x := by intro _; rfl) (hdb : (x == ("__debug__" : Str)) = false := by decide) (he : ∀ i, starEach (e :: es) (F i).env = (false, eval e (F i).env) :: starEach es (F i).env := by intro _; rfl)
    (hpl : ∀ i, (backTo pos (starEach es (F i).env)).any (·.1) = false := by intro _; rfl) : JN F (.Call (.Name x p) (e :: es) [] pos) ss (O a) ss1 := fun xs P0 H0 ow σ P H S Q k =>
  ⟨tCall (spN ar pre O) [] E0 (XA F (e :: es)), fun i => by
    obtain ⟨CX, kk, f, fd, ps, G, hr, hm, hk, hb, hx⟩ := (c i).ex
    exact pe_call G hr (hg i) hm hk hb .nil (hx _ rfl rfl) (xa i) hdb (he i) (hpl i), ha _ _ _ _ _ _ _ S.here _ fun vs P2 H2 S2 e2 r2 => by
    rw [List.append_nil]
    refine ⟨P2, a, S2.ld, hp, hA ▸ r2, fun v fp P3 H3 g fr ok => ?_⟩
    exact k v fp P3 H3 (S.back (S2.grow g) fun a ha => .inl ha) (e2.trans g.p) (fun b hb => ⟨S2.gone (fr b hb).1, (fr b hb).2⟩) ok⟩
end
section
variable {X : Cx} {xs : List Addr} {P0 H0 : Hp} {ow : List Addr} {σ : L2.St} {P H : Hp} {ss ss1 : List Sl} {D : Ends} {rest : List Stmt} {e : Expr} {pos : Pos} {O : Ow}
theorem w_retN (S : S8 xs P0 H0 ow σ P H ss) (h : JN (C1 X) e ss O ss1) (k : ∀ v fp P2 H2, S8 xs P0 H0 ow σ P2 H2 ss1 → (∀ b ∈ fp, H b = none ∧ P2 b = none ∧ H2 b ≠ none) → O.ok P2 H2 v fp → D.rt v H2) : XS X (.Return (some e) pos :: rest) D σ H :=
  w_cons ⟨_, ps_ret (xe (F := C1 X) ()), h _ _ _ _ _ _ _ S _ fun v fp P2 H2 S2 _ fr ok => k v fp P2 H2 S2 fr ok⟩
/-- an object that nobody holds is changed -/
theorem S8.poke (S : S8 xs P0 H0 ow σ P H ss) {d : Addr} (n : H0 d = none) (nx : d ∉ xs) (no : d ∉ ow) (np : P d = none) (o : HO) : S8 xs P0 H0 ow σ P (upd H d o) ss where
  p0 := S.p0
  ld := fun b u e => by
    have : b ≠ d := fun z => by rw [z, np] at e; cases e
    rw [upd_ne this]
    exact S.ld b u e
  h0 := fun b u hb e => by
    have : b ≠ d := fun z => by rw [z, n] at e; cases e
    rw [upd_ne this]
    exact S.h0 b u hb e
  nw := S.nw
  ows := fun a ha => by
    have : a ≠ d := fun z => no (z ▸ ha)
    rw [upd_ne this]
    exact S.ows a ha
  xh := fun a ha => by
    have : a ≠ d := fun z => nx (z ▸ ha)
    rw [upd_ne this]
    exact S.xh a ha
  sl := S.sl.grow (Same.refl _) fun a ha => by
    have : a ≠ d := fun z => no (z ▸ ha)
    rw [upd_ne this]
end
section
variable {P : Program} {w : World} {K : PySem.W.Frag} {mg : Str → Option Value} {base : Heap} {x qual : Str} {st : Stmt} {f : Addr} {fd : FuncData} {N ps : List Str}
theorem fnN {α : Type} {ar : α → List Pr} {pre : α → Prop} {O : α → Ow} (k : Nat) (F : Fun K x qual st f fd) (S : FnScope N ps (defScope st)) (hl : ∀ a, (ar a).length = ps.length)
    (hb : ∀ (cdv : Value) (A : Around) (outer : List Env) (s : Shared) (H0 : Hp) (Q : VK) (E : XK), Room k (A.deeper (envOfC qual (defScope st) s.heap.objs.size f cdv)) → ∀ (P0 : Hp) (a : α) (σ : L2.St), pre a → S8 [] P0 H0 [] σ P0 H0 (ini (ar a) (N.length - ps.length)) →
      (∀ v fp P2 H2, Gr P0 H0 P2 H2 → (∀ b ∈ fp, H0 b = none ∧ P2 b = none ∧ H2 b ≠ none) → (O a).ok P2 H2 v fp → Q v H2) → XS (cxOf CX0 P w K mg base N qual (defScope st) f cdv A outer s H0 E).nox (defBody st) { nx := fun _ H' => Q .non H', rt := Q } σ H0) :
    FnOk P w K mg base CX0 (k + 1) f fd ps (spN ar pre O) := by
  refine F.ok S (fun vs H Q E h => ?_) (fun cdv A outer s H vs Q E hr h => ?_)
  · obtain ⟨P0, a, _, _, r, _⟩ := h
    rw [r.len, hl]
  · obtain ⟨P0, a, ld, hp, r, q⟩ := h
    have e : vs.length = ps.length := by rw [r.len, hl]
    have S0 : S8 [] P0 H [] (L2.start N vs) P0 H (ini (ar a) (N.length - ps.length)) := by
      refine ⟨Same.refl _, ld, fun _ _ _ e => e, fun _ _ e => e, fun a ha => absurd ha (by simp), fun a ha => absurd ha (by simp), ?_⟩
      unfold L2.start
      rw [e]
      exact ini_all _ r
    exact ⟨_, Ly.xs, hb cdv A outer s H Q E hr P0 a _ hp S0 q⟩
end
/-! ### a slot's own object as data, while an expression without a heap value is worked out -/
section
variable {ι : Type} {F : ι → Cx} {ss ss3 ssN : List Sl} {R : Pr} {O : Ow} {e : Expr} {x : V}
theorem slAll_put {P H : Hp} {σ : L2.St} {ss : List Sl} (h : SlAll P H [] σ ss) : ∀ {i : Nat} {v : V} {R : Pr}, σ[i]? = some (some v) → R.p P v → SlAll P H [] σ (ss.set i (.pr R)) := by
  generalize he : ([] : List Addr) = ow at h
  induction h with
  | nil => intro i v R e r; exact .nil
  | @cons ow fp u s σ ss a dj hr ih =>
    intro i v R e r
    have h1 : fp = [] ∧ ow = [] := List.append_eq_nil_iff.mp he.symm
    obtain ⟨rfl, rfl⟩ := h1
    cases i with
    | zero =>
      have e : u = some v := by simpa using e
      subst e
      exact .cons (.pr r) dj hr
    | succ i => exact .cons a dj (ih rfl (by simpa using e) r)
theorem je_frz (i : Nat) (hs : ss[i]? = some (.ow O)) (hw : Wk ss ssN) (hno : noOw ssN = true) (hO : ∀ (P H : Hp) (v : V) (fp : List Addr), Ld P H → O.ok P H v fp → (∀ a ∈ fp, P a = none) → ∃ P', Same P P' ∧ Ld P' H ∧ R.p P' v)
    (h : JE F e (ssN.set i (.pr R)) (pV x) ss3) : JE F e ss (pV x) ss := fun xs P0 H0 ow σ P H S Q k => by
  obtain ⟨v, fp, ev, ok, hk, _⟩ := S.lendM hs
  have S1 := S.pure hw hno
  obtain ⟨P', sm, ld, r⟩ := hO P H v fp S.ld ok fun a ha => (hk a ha).1
  have S2 : S8 [] P' H [] σ P' H (ssN.set i (.pr R)) := ⟨Same.refl _, ld, fun _ _ _ e => e, fun _ _ e => e, fun a ha => absurd ha (by simp), fun a ha => absurd ha (by simp), slAll_put (S1.sl.grow sm fun a ha => absurd ha (by simp)) ev r⟩
  refine h _ _ _ _ _ _ _ S2 _ fun u P3 H3 S3 e3 r3 => ?_
  have g : Gr P H P H3 := ⟨Same.refl _, fun b u e => S3.ld b u (e3 _ _ (sm _ _ e)), fun b o e => S3.h0 b o (by simp) e, fun _ _ e => e⟩
  exact k u P H3 (S.grow g) (Same.refl _) r3
end
end Ly
/-! A pair of data and of a dict of one text key: ==, repr. -/
namespace Ly
open PySem PySem.Spec PyProof.Rows L2
/-- (d1, {k: d2}) -/
def brD (d1 : PyData) (k : Str) (d2 : PyData) : PyData := .tuple [d1, .dict [(.str k, d2)]]
def Br (K : PySem.W.Frag) (H : Hp) (v : V) (d1 : PyData) (k : Str) (d2 : PyData) : Prop := ∃ t d u1 u2, v = .ref t ∧ SqT K H t [u1, .ref d] ∧ Dp K H u1 d1 ∧ Rd H d (.dK [(Sum.inr k, u2)]) ∧ Dp K H u2 d2
/-- nothing but tuples and flat things -/
def NoAd (d : PyData) : Prop := ∀ (h : Heap) (v : Value) (as : List Addr), Reads h v d as → as = []
theorem noAd_int (i : Int) : NoAd (.int i) := fun h v as r => by cases r; rfl
theorem noAd_str (x : Str) : NoAd (.str x) := fun h v as r => by cases r; rfl
theorem noAd_all {ds : List PyData} (hd : ∀ d ∈ ds, NoAd d) : ∀ (h : Heap) (vs : List Value) (as : List Addr), ReadsAll h vs ds as → as = [] := by
  induction ds with
  | nil => intro h vs as r; cases r; rfl
  | cons d ds ih =>
    intro h vs as r
    cases r with
    | cons r1 r2 => rw [hd d (by simp) _ _ _ r1, ih (fun e he => hd e (List.mem_cons_of_mem _ he)) _ _ _ r2]; rfl
theorem noAd_tup {ds : List PyData} (hd : ∀ d ∈ ds, NoAd d) : NoAd (.tuple ds) := fun h v as r => by
  cases r with
  | tuple h1 h2 h3 h4 => exact noAd_all hd _ _ _ h4
section
variable {X : Cx} {pins : List (Addr × Obj)} {σ : L2.St} {H : Hp} {s : Shared}
/-- what stands at such a dict -/
theorem brDict (I : Inv X pins σ H s) {d : Addr} {k : Str} {u2 : V} (hd : Rd H d (.dK [(Sum.inr k, u2)])) : ∃ w2, RelV u2 w2 ∧ (d == sysModules) = false ∧ s.heap.DictOf (mixKind X.prog X.w) d [(Sum.inr k, w2)] := by
  obtain ⟨_, sm, vs, r, dd⟩ := dk_rd I.hok hd
  unfold KV at r
  cases r with
  | @cons p q ps qs h t =>
    cases t
    obtain ⟨q1, q2⟩ := q
    obtain ⟨h1, h2⟩ := h
    have h1 : Sum.inr k = q1 := h1
    subst h1
    exact ⟨q2, h2, sm, dd⟩
theorem Br.reads (I : Inv X pins σ H s) {v : V} {u : Value} {d1 d2 : PyData} {k : Str} (h : Br X.K H v d1 k d2) (r : RelV v u) (n1 : NoAd d1) (n2 : NoAd d2) : ∃ d, (d == sysModules) = false ∧ Reads s.heap u (brD d1 k d2) [d] := by
  obtain ⟨t, d, u1, u2, rfl, ht, h1, hd, h2⟩ := h
  cases r
  obtain ⟨its, rv, ⟨o, ho, hc, n, hdt⟩, _⟩ := I.tuple ht
  obtain ⟨w2, r2, sm, dd⟩ := brDict I hd
  cases rv with
  | @cons _ a1 _ as1 ra ta =>
    cases ta with
    | @cons _ a2 _ as2 rb tb =>
      cases tb
      cases rb
      obtain ⟨xs1, q1⟩ := Dp.reads I d1 u1 a1 h1 ra
      obtain ⟨xs2, q2⟩ := Dp.reads I d2 u2 w2 h2 r2
      rw [n1 _ _ _ q1] at q1
      rw [n2 _ _ _ q2] at q2
      obtain ⟨od, es, ep, hod, hex, hed, _, hp, _⟩ := dd
      generalize hes : es.toList = el at hp
      cases hp with
      | @cons e kv es' kvs p1 p2 p3 =>
        cases p3
        obtain ⟨x, tk, ex, ek⟩ : ∃ x tk, (Sum.inr k : Key) = Sum.inr x ∧ e.key = Value.str x tk := by
          have p1 : keyIs (Sum.inr k) e.key = true := p1
          rcases keyIs_shape p1 with ⟨i, tk, e1, _⟩ | h
          · exact nomatch e1
          · exact h
        cases ex
        refine ⟨d, sm, ?_⟩
        have rd : Reads s.heap (.ref d) (.dict [(.str k, d2)]) (d :: ([] ++ []) ++ ([] ++ [])) := Reads.dict hod hex.1 hed (by
          rw [hes]
          show ReadsAll s.heap [e.key] [.str k] _
          rw [ek]
          exact .cons (.str k tk) .nil) (by
          rw [hes]
          show ReadsAll s.heap [e.val] [d2] _
          have p2 : e.val = w2 := p2
          rw [p2]
          exact .cons q2 .nil)
        have := Reads.tuple ho hc hdt (.cons q1 (.cons rd .nil))
        exact this
end
def rEqBr (K : PySem.W.Frag) : R2 := fun x y H Q => ∃ d1 k d2, Br K H x d1 k d2 ∧ Br K H y d1 k d2 ∧ SeqAt.shaped d1 = true ∧ SeqAt.shaped d2 = true ∧ Q (.bl true) H
section
variable {X : Cx}
theorem op_eqBr (hu : X.A.units + 70 < cLine) : OpR X (compareOp .Eq) (rEqBr X.K) := by
  intro pins s σ H x y v u Q I rx ry h
  obtain ⟨d1, k, d2, ⟨t, d, u1, u2, rfl, ht, h1, hd, h2⟩, ⟨t', d', u1', u2', rfl, ht', h1', hd', h2'⟩, s1, s2, q⟩ := h
  cases rx
  cases ry
  obtain ⟨its, rv, it, _⟩ := I.tuple ht
  obtain ⟨its', rv', it', _⟩ := I.tuple ht'
  have it : s.heap.IsTuple t its.toArray := it
  have it' : s.heap.IsTuple t' its'.toArray := it'
  obtain ⟨w2, r2, sm, dd⟩ := brDict I hd
  obtain ⟨w2', r2', sm', dd'⟩ := brDict I hd'
  cases rv with
  | @cons _ a1 _ as1 ra ta =>
    cases ta with
    | @cons _ a2 _ as2 rb tb =>
      cases tb
      cases rb
      cases rv' with
      | @cons _ b1 _ bs1 ra' ta' =>
        cases ta' with
        | @cons _ b2 _ bs2 rb' tb' =>
          cases tb'
          cases rb'
          have leaf : ∀ (e : PyData) (n : Nat) (x y : V) (v u : Value), 64 ≤ n → SeqAt.shaped e = true → Dp X.K H x e → Dp X.K H y e → RelV x v → RelV y u → PySem.W.EqTree X.prog X.w s n v u true := by
            intro e n x y v u hn se hx hy rx ry
            obtain ⟨xs, q1⟩ := Dp.reads I e x v hx rx
            obtain ⟨ys, q2⟩ := Dp.reads I e y u hy ry
            have er := SeqAt.eqv_refl e (SeqAt.canLay_of_shaped se)
            refine .leaf fun A hA => ?_
            have h := SeqAt.eqAt_reads e e A s v u xs ys q1 q2 (SeqAt.canLay_of_shaped se) (SeqAt.canLay_of_shaped se) (by
              have := SeqAt.depth_of_shaped se
              omega)
            rw [er] at h
            exact h
          have tr : PySem.W.EqTree X.prog X.w s 65 (Value.ref d) (Value.ref d') true := by
            by_cases e : d = d'
            · subst e
              exact .same
            · have h := PySem.W.EqTree.dicts (prog := X.prog) (w := X.w) (s := s) (n := 64) (e := fun _ => true) e sm sm' dd dd' (fun kk v y hm hv => by
                have hm : (kk, v) = (Sum.inr k, w2) := by simpa using hm
                cases hm
                have hv : w2' = y := by simpa [valueAt] using hv
                subst hv
                exact leaf d2 64 u2 u2' _ _ (Nat.le_refl _) s2 h2 h2' r2 r2')
              have ev : (([(Sum.inr k, w2)] : List (Key × Value)).length == ([(Sum.inr k, w2')] : List (Key × Value)).length && ([(Sum.inr k, w2)] : List (Key × Value)).all fun p => (valueAt ([(Sum.inr k, w2')] : List (Key × Value)) p.1).isSome && true) = true := by
                simp [valueAt]
              rw [ev] at h
              exact h
          have l1 := leaf d1 65 u1 u1' a1 b1 (by decide) s1 h1 h1' ra ra'
          refine PySem.W.eq_tuplesT (n := 65) (e := fun _ => true) it it' (fun j j1 j2 => ?_) (by omega) ?_
          · have hj : j = 0 ∨ j = 1 := by
              have : j < 2 := j1
              omega
            rcases hj with rfl | rfl
            · exact l1
            · exact tr
          · exact ⟨.bl true, H, I, rfl, q⟩
/-- == of data, or of such pairs -/
def rEqU (K : PySem.W.Frag) : R2 := fun x y H Q => rEqD K x y H Q ∨ rEqBr K x y H Q
theorem op_eqU (hu : X.A.units + 70 < cLine) : OpR X (compareOp .Eq) (rEqU X.K) := by
  intro pins s σ H x y v u Q I rx ry h
  rcases h with h | h
  · exact op_eqD (by omega) pins s σ H x y v u Q I rx ry h
  · exact op_eqBr hu pins s σ H x y v u Q I rx ry h
def rReprBr (K : PySem.W.Frag) : List V → Hp → VK → Prop := fun xs H Q => ∃ x d1 k d2, xs = [x] ∧ Br K H x d1 k d2 ∧ NoAd d1 ∧ NoAd d2 ∧ (brD d1 k d2).depth ≤ 60 ∧ (brD d1 k d2).showable = true ∧ (brD d1 k d2).shown.length ≤ sizeLine ∧ Q (.str (brD d1 k d2).shown) H
def rReprU (K : PySem.W.Frag) : List V → Hp → VK → Prop := fun xs H Q => rReprD K xs H Q ∨ rReprBr K xs H Q
theorem call_reprU (hg : X.A.guards = some []) (hu : X.A.units + 70 < cLine) : CallR X (.builtin "repr") (rReprU X.K) := by
  intro pins s σ H xs us Q I r h
  rcases h with h | h
  · exact call_reprD hg (by omega) pins s σ H xs us Q I r h
  · obtain ⟨x, d1, k, d2, rfl, hb, n1, n2, hdep, hsh, hz, q⟩ := h
    obtain ⟨u, rfl, ru⟩ := vals1 r
    obtain ⟨d, sm, rr⟩ := hb.reads I ru n1 n2
    obtain ⟨t, _, _, _, rfl, _⟩ := hb
    cases ru
    exact repr_of_reads' rr hsh (fun _ hm => by
      have hm : sysModules = d := by simpa using hm
      rw [← hm] at sm
      exact absurd sm (by simp)) hg (by omega) (fun b o e => e) (fun h' u' tk kk => ⟨.str _, H, I.kept (h' := h') (t' := tk) kk, ⟨_, rfl⟩, q⟩) hz
end
end Ly
/-! _law_same once more, also for what has a dict inside; loeb_breaker, _law_breaker_due -/
namespace K74
open PySem PySem.Spec PyProof.Rows L2 Ly M74
structure TwoS where
  R : Pr
  S : Pr
  q : Bool
  s : Str
  t : Str
structure preSm (K : PySem.W.Frag) (a : TwoS) : Prop where
  eq : RVr (rEqU K) a.R a.S (pB a.q)
  r1 : RCr (rReprU K) [a.R] (pS a.s)
  r2 : RCr (rReprU K) [a.S] (pS a.t)
abbrev spSm (K : PySem.W.Frag) : Sp := spX (fun a : TwoS => [a.R, a.S]) (preSm K) (fun a => pB (a.q && decide (a.s = a.t))) (fun _ => none)
theorem preSm.of {K : PySem.W.Frag} {R S : Pr} {d e : PyData} (h1 : PD K R d) (h2 : PD K S e) (w1 : Wr d) (w2 : Wr e) : preSm K ⟨R, S, PyData.eqv d e, d.shown, e.shown⟩ where
  eq := rv0 fun P H u v Q l a b k => .inl ⟨d, e, h1 P H u l a, h2 P H v l b, w1.sh, w2.sh, k _ rfl⟩
  r1 := fun P H vs Q l r k => .inl (by
    obtain ⟨v, rfl, r1⟩ := pl1 r
    exact ⟨v, d, rfl, h1 P H v l r1, w1.sh, w1.dp, w1.sw, w1.ln, k _ P H (Gr.refl l) rfl⟩)
  r2 := fun P H vs Q l r k => .inl (by
    obtain ⟨v, rfl, r1⟩ := pl1 r
    exact ⟨v, e, rfl, h2 P H v l r1, w2.sh, w2.dp, w2.sw, w2.ln, k _ P H (Gr.refl l) rfl⟩)
/-! ### the breaker's datum -/
abbrev Brk := Option (Nat × List (Str × Str))
def ssD (p : Str × Str) : PyData := .tuple [.str p.1, .str p.2]
abbrev pSS (K : PySem.W.Frag) (p : Str × Str) : Pr := pT K [pS p.1, pS p.2]
def lastD (last : Nat) : PyData := .tuple [.int (last : Int), .int 0]
def prsD (prs : List (Str × Str)) : PyData := .tuple (prs.map ssD)
/-- as an object of which the dict is one's own -/
def oBrk (K : PySem.W.Frag) : Brk → Ow
  | none => ⟨fun P H v fp => v = .non ∧ fp = [], fun _ _ h => h⟩
  | some (last, prs) => ⟨fun P H v fp => ∃ t t1 d tp, v = .ref t ∧ fp = [d] ∧ P t = some (.tup [.ref t1, .ref d]) ∧ (pT K [pI (last : Nat), pI 0]).p P (.ref t1) ∧ (pT K (prs.map (pSS K))).p P (.ref tp) ∧ H d = some (.dK [(Sum.inr "p", .ref tp)]),
    fun e k ⟨t, t1, d, tp, h1, h2, h3, h4, h5, h6⟩ => ⟨t, t1, d, tp, h1, h2, e _ _ h3, Pr.up _ e h4, Pr.up _ e h5, by subst h2; rw [k d (by simp)]; exact h6⟩⟩
/-- .. that is never changed any more -/
def pBrk (K : PySem.W.Frag) : Brk → Pr
  | none => pN
  | some (last, prs) => ⟨fun P v => ∃ t t1 d tp, v = .ref t ∧ P t = some (.tup [.ref t1, .ref d]) ∧ (pT K [pI (last : Nat), pI 0]).p P (.ref t1) ∧ (pT K (prs.map (pSS K))).p P (.ref tp) ∧ P d = some (.dK [(Sum.inr "p", .ref tp)]),
    fun e ⟨t, t1, d, tp, h1, h3, h4, h5, h6⟩ => ⟨t, t1, d, tp, h1, e _ _ h3, Pr.up _ e h4, Pr.up _ e h5, e _ _ h6⟩⟩
/-- a small datum, written out -/
structure BrOk (b : Brk) : Prop where
  ok : ∀ last prs, b = some (last, prs) → last ≤ 1000 ∧ (brD (lastD last) "p" (prsD prs)).shown.length ≤ sizeLine ∧ SeqAt.shaped (prsD prs) = true
theorem sh_last (last : Nat) : SeqAt.shaped (lastD last) = true := rfl
theorem noAd_last (last : Nat) : NoAd (lastD last) := noAd_tup fun d hd => by
  have hd : d = .int (last : Int) ∨ d = .int 0 := by simpa using hd
  rcases hd with rfl | rfl <;> exact noAd_int _
theorem noAd_prs (prs : List (Str × Str)) : NoAd (prsD prs) := noAd_tup fun d hd => by
  obtain ⟨p, _, rfl⟩ := List.mem_map.mp hd
  exact noAd_tup fun d hd => by
    have hd : d = .str p.1 ∨ d = .str p.2 := by simpa using hd
    rcases hd with rfl | rfl <;> exact noAd_str _
theorem pd_last {K : PySem.W.Frag} (last : Nat) : PD K (pT K [pI (last : Nat), pI 0]) (lastD last) := pd_t (pdl_cons pd_i (pdl_cons pd_i pdl_nil))
theorem pd_prs {K : PySem.W.Frag} (prs : List (Str × Str)) : PD K (pT K (prs.map (pSS K))) (prsD prs) := pd_t (pdl_map (fun p => pd_t (pdl_cons pd_s (pdl_cons pd_s pdl_nil))) prs)
theorem pBrk_br {K : PySem.W.Frag} {last : Nat} {prs : List (Str × Str)} {P H : Hp} {v : V} (l : Ld P H) (h : (pBrk K (some (last, prs))).p P v) : Br K H v (lastD last) "p" (prsD prs) := by
  obtain ⟨t, t1, d, tp, rfl, h3, h4, h5, h6⟩ := h
  exact ⟨t, d, .ref t1, .ref tp, rfl, .inl (l.rd h3), pd_last last P H _ l h4, l.rd h6, pd_prs prs P H _ l h5⟩
theorem dep_prs : ∀ prs : List (Str × Str), PyData.depthAll (prs.map ssD) ≤ 1
  | [] => by simp [PyData.depthAll]
  | p :: prs => by
    have h := dep_prs prs
    have e : (ssD p).depth = 1 := by simp [ssD, PyData.depth, PyData.depthAll]
    rw [List.map_cons]
    simp only [PyData.depthAll, e]
    omega
theorem sw_prs : ∀ prs : List (Str × Str), PyData.showableAll (prs.map ssD) = true
  | [] => rfl
  | p :: prs => by
    have h := sw_prs prs
    rw [List.map_cons]
    simp [PyData.showableAll, PyData.showable, ssD, h]
theorem br_dep (last : Nat) (prs : List (Str × Str)) : (brD (lastD last) "p" (prsD prs)).depth ≤ 60 := by
  have h := dep_prs prs
  simp only [brD, lastD, prsD, PyData.depth, PyData.depthAll, PyData.depthKv]
  omega
theorem br_sw (last : Nat) (prs : List (Str × Str)) (h : last ≤ 1000) : (brD (lastD last) "p" (prsD prs)).showable = true := by
  have h1 := sw_prs prs
  have h2 : ((last : Int)).natAbs.log2 < 1920 := log_small (by omega)
  have h3 : ((0 : Int)).natAbs.log2 < 1920 := by decide
  simp only [brD, lastD, prsD, PyData.showable, PyData.showableAll, PyData.showableKv, h1, Bool.and_true, Bool.and_eq_true, decide_eq_true_eq]
  exact ⟨h2, h3⟩
theorem preSm.brk {K : PySem.W.Frag} {b : Brk} (ok : BrOk b) : ∃ s, preSm K ⟨pBrk K b, pBrk K b, true, s, s⟩ := by
  cases b with
  | none => exact ⟨_, preSm.of (K := K) (d := .none) (e := .none) pd_n pd_n ⟨rfl, by decide, rfl, by decide +kernel⟩ ⟨rfl, by decide, rfl, by decide +kernel⟩⟩
  | some z =>
    obtain ⟨last, prs⟩ := z
    obtain ⟨h1, h2, h3⟩ := ok.ok last prs rfl
    have rr : RCr (rReprU K) [pBrk K (some (last, prs))] (pS (brD (lastD last) "p" (prsD prs)).shown) := fun P H vs Q l r k => .inr (by
      obtain ⟨v, rfl, r1⟩ := pl1 r
      exact ⟨v, _, _, _, rfl, pBrk_br l r1, noAd_last last, noAd_prs prs, br_dep last prs, br_sw last prs h1, h2, k _ P H (Gr.refl l) rfl⟩)
    exact ⟨_, rv0 fun P H u v Q l a b k => .inr ⟨_, _, _, pBrk_br l a, pBrk_br l b, sh_last last, h3, k _ rfl⟩, rr, rr⟩
section
variable {w : World} {K : PySem.W.Frag} {mg : Str → Option Value} {base : Heap}
theorem room70 {A : Around} {k : Nat} (h : Room k A) : A.units + 70 < cLine := by have := h.un; omega
theorem ok_Sm {f : Addr} {fd : FuncData} (F : FnP K "_law_same" sSame f fd) (T : Cst K mg) (hrep : mg "repr" = none) : FnG PP w K mg base 1 f fd ["told", "due"] (spSm K) := by
  refine fnXG 0 F scSame (fun _ => rfl) fun X cdv A outer s H0 Q E hX hr hgd tk P0 a σ pre S kQ kE => ?_
  subst hX
  obtain ⟨h1, h2, h3⟩ := pre
  refine w_ret S (je_and (q := a.q) (q' := decide (a.s = a.t)) (je_cmp (fun _ => op_eqU (room70 hr)) h1 (je_v 0 fun _ => pv 0) (je_v 1 fun _ => pv 1) (nomark _)) fun _ => je_one (JE.is (je_cmp (fun _ => op_eq) (rv_eq rfl)
    (je_cb (r := rReprU K) (fun _ => call_reprU hgd (room70 hr)) h2 (ja_cons (je_v 0 fun _ => pv 0) ja_nil) (fun _ => hrep) (by decide +kernel)) (je_cb (r := rReprU K) (fun _ => call_reprU hgd (room70 hr)) h3 (ja_cons (je_v 1 fun _ => pv 1) ja_nil) (fun _ => hrep) (by decide +kernel)) (nomark _)) (congrArg pB (dec_str _ _)))) fun v P H S r => kQ rfl v P H S.gr r
end
end K74
/-! loeb_breaker, _law_breaker_due -/
namespace K74
open PySem PySem.Spec PyProof.Rows L2 Ly M74
/-! ### the last up -/
def stU (a : Nat) (y : Nat × Blk) : Nat := if y.2 = .up then y.1 else a
theorem fU_or : ∀ (L : List (Nat × Blk)) (a : Nat), (L.foldl stU a = a ∧ ∀ y ∈ L, y.2 ≠ .up) ∨ (L.foldl stU a, Blk.up) ∈ L
  | [], a => .inl ⟨rfl, fun y hy => absurd hy (by simp)⟩
  | z :: L, a => by
    rw [List.foldl_cons]
    rcases fU_or L (stU a z) with ⟨h1, h2⟩ | h
    · by_cases hz : z.2 = .up
      · refine .inr ?_
        rw [h1]
        unfold stU
        rw [if_pos hz]
        have : z = (z.1, Blk.up) := by rw [← hz]
        rw [← this]
        simp
      · refine .inl ⟨by rw [h1]; unfold stU; rw [if_neg hz], fun y hy => ?_⟩
        rcases List.mem_cons.mp hy with rfl | hy
        · exact hz
        · exact h2 y hy
    · exact .inr (List.mem_cons_of_mem _ h)
theorem fU_max : ∀ (L : List (Nat × Blk)) (a : Nat), L.Pairwise (fun p q => p.1 < q.1) → ∀ y ∈ L, y.2 = .up → y.1 ≤ L.foldl stU a
  | [], _, _, y, hy, _ => absurd hy (by simp)
  | z :: L, a, hp, y, hy, hu => by
    rw [List.foldl_cons]
    obtain ⟨h1, h2⟩ := List.pairwise_cons.mp hp
    rcases List.mem_cons.mp hy with rfl | hy
    · have e : stU a y = y.1 := by unfold stU; rw [if_pos hu]
      rw [e]
      rcases fU_or L y.1 with ⟨h3, _⟩ | h3
      · omega
      · have := h1 _ h3
        exact Nat.le_of_lt this
    · exact fU_max L _ h2 y hy hu
def lastUp (bs : Ln) : Nat := (idx bs).foldl stU 0
theorem idx_pw (bs : Ln) : (idx bs).Pairwise (fun p q => p.1 < q.1) := by
  have e : (idx bs).map (·.1) = List.range bs.length := by
    unfold idx
    rw [List.map_fst_zip]
    simp
  have h := List.pairwise_lt_range (n := bs.length)
  rw [← e, List.pairwise_map] at h
  exact h
theorem lastUp_at {bs : Ln} (h : Blk.up ∈ bs) : bs[lastUp bs]? = some .up := by
  rcases fU_or (idx bs) 0 with ⟨_, h2⟩ | h2
  · obtain ⟨i, hi⟩ := List.mem_iff_getElem?.mp h
    exact absurd rfl (h2 (i, .up) (mem_idx.mpr hi))
  · exact mem_idx.mp h2
theorem lastUp_max {bs : Ln} {k : Nat} (h : bs[k]? = some .up) : k ≤ lastUp bs := fU_max (idx bs) 0 (idx_pw bs) (k, .up) (mem_idx.mpr h) rfl
/-! ### the signs -/
def sgn (last i : Nat) : Str := if last < i then "1" else "0"
def brPr (last : Nat) (y : Nat × Blk) : Str × Str := match y.2 with
  | .n k => (Txt.mul (sgn last y.1) (k : Int), "")
  | _ => ("", sgn last y.1)
def brPrs (bs : Ln) : List (Str × Str) := (idx bs).map (brPr (lastUp bs))
def brk (bs : Ln) : Brk := if .up ∈ bs then some (lastUp bs, brPrs bs) else none
theorem s1_eq : ("1" : Str) = ⟨#[49]⟩ := by decide +kernel
theorem s0_eq : ("0" : Str) = ⟨#[48]⟩ := by decide +kernel
/-- a short text of plain signs -/
structure Sht (x : Str) : Prop where
  ch : ∀ c ∈ x.cps.toList, c = 48 ∨ c = 49
  ln : x.cps.size ≤ 1000
theorem sht_rep (c : Nat) (hc : c = 48 ∨ c = 49) {k : Nat} (h : k ≤ 1000) : Sht (Txt.mul ⟨#[c]⟩ (k : Int)) := by
  have e := mul_one_list c (k : Int)
  rw [Int.toNat_natCast] at e
  refine ⟨fun d hd => ?_, ?_⟩
  · rw [e] at hd
    obtain ⟨_, rfl⟩ := List.mem_replicate.mp hd
    exact hc
  · have : (Txt.mul ⟨#[c]⟩ (k : Int)).cps.toList.length = k := by rw [e, List.length_replicate]
    rw [Array.length_toList] at this
    omega
theorem sht_mul (last i : Nat) {k : Nat} (h : k ≤ 1000) : Sht (Txt.mul (sgn last i) (k : Int)) := by
  unfold sgn
  split
  · rw [s1_eq]; exact sht_rep 49 (.inr rfl) h
  · rw [s0_eq]; exact sht_rep 48 (.inl rfl) h
theorem sht_sgn (last i : Nat) : Sht (sgn last i) := by
  unfold sgn
  split
  · rw [s1_eq]; exact ⟨by decide, by decide⟩
  · rw [s0_eq]; exact ⟨by decide, by decide⟩
theorem sht_no : Sht ("" : Str) := ⟨fun c hc => by
  have e : ("" : Str).cps.toList = [] := by decide +kernel
  rw [e] at hc
  exact absurd hc (by simp), by decide +kernel⟩
theorem sht_br {last : Nat} {y : Nat × Blk} (h : ∀ k, y.2 = .n k → k ≤ 1000) : Sht (brPr last y).1 ∧ Sht (brPr last y).2 := by
  unfold brPr
  split
  · rename_i k e
    exact ⟨sht_mul _ _ (h k e), sht_no⟩
  · exact ⟨sht_no, sht_sgn _ _⟩
theorem sht_ok {x : Str} (h : Sht x) : PyData.strOk x = true := by
  unfold PyData.strOk
  rw [Array.all_eq_true]
  intro i hi
  have := h.ch x.cps[i] (Array.mem_toList_iff.mpr (Array.getElem_mem hi))
  simp only [decide_eq_true_eq]
  omega
theorem sht_leaf {x : Str} (h : Sht x) (B : Nat) : (PyData.str x).leavesShort B = true := by
  simp only [PyData.leavesShort, List.all_eq_true, decide_eq_true_eq]
  intro c hc
  have := h.ch c hc
  have e : 16 ^ 8 = 4294967296 := rfl
  omega
theorem prs_facts : ∀ prs : List (Str × Str), (∀ p ∈ prs, Sht p.1 ∧ Sht p.2) → PyData.canLayAll0 (prs.map ssD) = true ∧ PyData.leavesShortAll 8 (prs.map ssD) = true ∧ PyData.weightAll (prs.map ssD) ≤ 3000 * prs.length
  | [], _ => ⟨rfl, rfl, Nat.le_refl _⟩
  | p :: prs, h => by
    obtain ⟨h1, h2⟩ := h p (by simp)
    obtain ⟨i1, i2, i3⟩ := prs_facts prs fun q hq => h q (List.mem_cons_of_mem _ hq)
    have l1 := h1.ln
    have l2 := h2.ln
    refine ⟨?_, ?_, ?_⟩
    · rw [List.map_cons]
      simp only [PyData.canLayAll0, ssD, PyData.canLay0, sht_ok h1, sht_ok h2, i1, Bool.and_true, Bool.true_and]
    · rw [List.map_cons]
      have a1 := sht_leaf h1 8
      have a2 := sht_leaf h2 8
      simp only [PyData.leavesShortAll, ssD, PyData.leavesShort, i2, Bool.and_true, Bool.true_and] at a1 a2 ⊢
      rw [a1, a2]
      rfl
    · rw [List.map_cons, List.length_cons]
      simp only [PyData.weightAll, ssD, PyData.weight]
      omega
theorem brk_ok {bs : Ln} (h : okLn bs) : BrOk (brk bs) := ⟨fun last prs e => by
  unfold brk at e
  split at e
  · rename_i hu
    simp only [Option.some.injEq, Prod.mk.injEq] at e
    obtain ⟨rfl, rfl⟩ := e
    have hl : lastUp bs < bs.length := (List.getElem?_eq_some_iff.mp (lastUp_at hu)).1
    have h8 := h.1
    have hf := prs_facts (brPrs bs) fun p hp => by
      obtain ⟨y, hy, rfl⟩ := List.mem_map.mp hp
      exact sht_br fun k e => (h.2 k (by have := idx_snd hy; rw [e] at this; exact this)).2
    have hlen : (brPrs bs).length ≤ 8 := by
      unfold brPrs
      rw [List.length_map, idx_len]
      exact h8
    refine ⟨by omega, PyData.shown_fits (B := 8) (Nat.le_refl _) (by decide) ?_ ?_, ?_⟩
    · have hl9 : lastUp bs < 8 := by omega
      have key : ∀ i : Nat, i < 8 → ((PyData.int (i : Int)).shown).length ≤ 8 := by decide +kernel
      have k0 : ((PyData.int 0).shown).length ≤ 8 := by decide +kernel
      have kp : (("p" : Str).cps.toList.all fun c => decide (c < 16 ^ 8)) = true := by decide +kernel
      simp only [brD, lastD, prsD, PyData.leavesShort, PyData.leavesShortAll, PyData.leavesShortKv, hf.2.1, decide_eq_true (key _ hl9), decide_eq_true k0, kp, Bool.and_true, Bool.true_and]
    · have hw := hf.2.2
      have h3 : 3000 * (brPrs bs).length ≤ 3000 * 8 := Nat.mul_le_mul (Nat.le_refl _) hlen
      have hlg : (if ((lastUp bs : Nat) : Int) == 0 then 0 else ((lastUp bs : Nat) : Int).natAbs.log2 + 1) ≤ 2000 := by
        have := log_small (i := ((lastUp bs : Nat) : Int)) (by omega)
        split <;> omega
      have kp : (("p" : Str).cps.size) = 1 := by decide +kernel
      have e20 : 2 ^ 20 = 1048576 := rfl
      simp only [brD, lastD, prsD, PyData.weight, PyData.weightAll, PyData.weightKv, kp]
      have e0 : (if (0 : Int) == 0 then 0 else (0 : Int).natAbs.log2 + 1) = 0 := rfl
      rw [e0]
      generalize (if ((lastUp bs : Nat) : Int) == 0 then 0 else ((lastUp bs : Nat) : Int).natAbs.log2 + 1) = z at hlg
      refine Nat.le_trans ?_ (show 100000 ≤ 2 ^ 20 by decide)
      generalize PyData.weightAll ((brPrs bs).map ssD) = y at hw
      generalize (brPrs bs).length = x at hw h3 hlen
      show z + 1 + (0 + 1 + 0) + 1 + (1 + y + 2 + 0 + 1 + 0) ≤ 100000
      omega
    · unfold SeqAt.shaped prsD
      have hd := dep_prs (brPrs bs)
      simp only [PyData.canLay0, PyData.depth, hf.1, Bool.true_and]
      exact decide_eq_true (by omega)
  · cases e⟩
end K74
/-! loeb_breaker, _law_breaker_due: the walks -/
namespace K74
open PySem PySem.Spec PyProof.Rows L2 Ly M74
section
variable {ι : Type} {F : ι → Cx} {K : PySem.W.Frag} {ss : List Sl} {e1 v : Expr} {p0 p1 pos : Pos} {j x2 : Nat} {last : Nat} {prs : List (Str × Str)}
theorem jn_brk (h1 : JE F e1 ss (pT K [pI (last : Nat), pI 0]) ss) (hv : JE F v ss (pT K (prs.map (pSS K))) ss) (hs1 : ∀ i, starEach [e1, .Dict [some (.Constant (.str "p") j p0)] [v] p1] (F i).env = (false, eval e1 (F i).env) :: starEach [.Dict [some (.Constant (.str "p") j p0)] [v] p1] (F i).env := by intro _; rfl)
    (hs2 : ∀ i, starEach [.Dict [some (.Constant (.str "p") j p0)] [v] p1] (F i).env = (false, eval (.Dict [some (.Constant (.str "p") j p0)] [v] p1) (F i).env) :: starEach [] (F i).env := by intro _; rfl) :
    JN F (.Tuple [e1, .Dict [some (.Constant (.str "p") j p0)] [v] p1] x2 pos) ss (oBrk K (some (last, prs))) ss := fun xs P0 H0 ow σ P H S Q k => by
  refine ⟨_, fun i => pe_tup (pa_cons (xe (F := F) (e := e1) i) (pa_cons (pe_disp (pps_cons pe_str (xe (F := F) (e := v) i) pps_nil) rfl rfl (by simp) (by simp)) pa_nil (hs2 i)) (hs1 i)), ?_⟩
  refine h1 _ _ _ _ _ _ _ S.here _ fun u1 P1 H1 S1 e1' r1 => ?_
  intro d hd
  have g := Gr.junk S1.ld hd (.dK [])
  have S2 := S1.grow g
  have npd : P1 d = none := S1.ld.none hd
  refine hv _ _ _ _ _ _ _ S2.here _ fun u2 P3 H3 S3 e3 r3 => ?_
  have nod : d ∉ ow := fun z => (S1.ows d z).2.1 hd
  have hd3 : H3 d = some (.dK []) := S3.h0 d _ nod upd_same
  have np3 : P3 d = none := S3.nw d (by rw [upd_same]; exact Option.some_ne_none _) npd
  refine ⟨hd3, [(Sum.inr "p", u2)], rfl, by simp, ?_⟩
  have S4 := S2.back S3 fun a ha => .inl ha
  have gd : H d = none := S1.gone hd
  have S5 := S4.poke gd nod nod np3 (.dK (mergeK [] [(Sum.inr "p", u2)]))
  refine ⟨by show 2 ≤ sizeLine; rw [sizeLine_eq]; decide, fun t ht => ?_⟩
  have g6 := Gr.new S5.ld ht (.tup [u1, .ref d])
  have S6 := S5.grow g6
  obtain ⟨a1, ys1, rfl, q1⟩ := id r1
  obtain ⟨a2, ys2, rfl, q2⟩ := id r3
  have htd : d ≠ t := fun z => by
    rw [← z, upd_same] at ht
    cases ht
  have hsm : Same P1 P3 := e3
  refine k (.ref t) [d] _ _ (S.back S6 fun a ha => .inl ha) (e1'.trans (hsm.trans g6.p)) (fun b hb => ?_) ⟨t, a1, d, a2, rfl, rfl, upd_same, (pT K _).up (hsm.trans g6.p) r1, (pT K _).up g6.p r3, ?_⟩
  · have hb : b = d := by simpa using hb
    subst hb
    refine ⟨gd, ?_, ?_⟩
    · rw [upd_ne htd]; exact np3
    · rw [upd_ne htd, upd_same]; exact Option.some_ne_none _
  · rw [upd_ne htd, upd_same]
    rfl
theorem jb_brk {e : Expr} (h : JN F e ss (oBrk K (some (last, prs))) ss) : JE F e ss (pBrk K (some (last, prs))) ss := fun xs P0 H0 ow σ P H S Q k =>
  h _ _ _ _ _ _ _ S.here _ fun u fp P2 H2 S2 e2 fr ok => by
    obtain ⟨t, t1, d, tp, rfl, rfl, h3, h4, h5, h6⟩ := ok
    obtain ⟨f1, f2, f3⟩ := fr d (by simp)
    have no : d ∉ ow := fun z => (S.ows d z).2.1 f1
    have S3 := S2.freeze f1 no no f2 h6
    have sm := same_upd (o := .dK [(Sum.inr "p", V.ref tp)]) f2
    exact k _ _ H2 (S.back S3 fun a ha => .inl ha) (e2.trans sm) ⟨t, t1, d, tp, rfl, sm _ _ h3, (pT K _).up sm h4, (pT K _).up sm h5, upd_same⟩
end
theorem inV_up : ∀ bs : Ln, inV (.str "up") (bs.map kb) = decide (Blk.up ∈ bs)
  | [] => rfl
  | b :: bs => by
    have ih := inV_up bs
    unfold inV at ih ⊢
    rw [List.map_cons, List.any_cons, ih]
    cases b with
    | n k => simp [kb, eqV]
    | up => simp [kb, eqV]
    | dn =>
      have : eqV (kb .dn) (.str "up") = false := by decide +kernel
      rw [this]
      simp
theorem kb_allflat (bs : Ln) : (bs.map kb).all flatV = true := by
  rw [List.all_eq_true]
  intro v hv
  obtain ⟨b, _, rfl⟩ := List.mem_map.mp hv
  exact kb_flat b
section
variable {Pg : Program} {w : World} {K : PySem.W.Frag} {mg : Str → Option Value} {base : Heap} {C : Addr}
abbrev sLB : Stmt := top 23
abbrev nLB : List Str := ["line", "last", "at", "block", "pairs", "sign"]
theorem scLB : FnScope nLB ["line"] (defScope sLB) := ⟨rfl, rfl, rfl, by decide +kernel, rfl, by decide +kernel, by decide +kernel⟩
abbrev spLB (K : PySem.W.Frag) (C : Addr) : Sp := spN (fun bs : Ln => [pLn K C bs]) okLn (fun bs => oBrk K (brk bs))
theorem mulOk_sgn (last i : Nat) {k : Nat} (h : k ≤ 1000) : MulOk (sgn last i) (k : Int) := by
  refine mulOk_of 1 1000 ?_ (by omega) (by omega) (by decide) (by decide)
  unfold sgn
  split <;> decide +kernel
theorem ok_LB {f : Addr} {fd : FuncData} (F : FnP K "loeb_breaker" sLB f fd) (T : Cst K mg) (TL : LnK K C) : FnOk Pg w K mg base CX0 1 f fd ["line"] (spLB K C) := by
  refine fnN 0 F scLB (fun _ => rfl) fun cdv A outer s H0 Q E hr P0 bs σ pre S kQ => ?_
  obtain ⟨h8, hk⟩ := pre
  obtain ⟨aE, hE, tE⟩ := T.END
  have ebs : pBs K bs = pT K ((bs.map kb).map pV) := by unfold pBs; rw [List.map_map]; rfl
  refine w_if S (q := !decide (Blk.up ∈ bs)) (JT.is (jt_cmp (fun _ => op_notIn_seq) (rv_niT (K := K) rfl (kb_allflat bs)) je_s (JE.is (je_fld (K := K) (je_v 0 fun _ => pv 0) TL.c TL.bl lk_bl) ebs) rfl) (by rw [inV_up])) (fun h P H S => ?_) (fun h P H S => w_nil ?_)
  · have h : Blk.up ∉ bs := by simpa using h
    refine w_ret S je_n fun v P H S r => kQ v [] P H S.gr (fun b hb => absurd hb (by simp)) ?_
    unfold brk
    rw [if_neg h]
    exact ⟨r, rfl⟩
  have hu : Blk.up ∈ bs := by simpa using h
  refine w_asg 1 (R := pI ((0 : Nat) : Int)) S je_i (fun ow σ P H S => ?_) scLB.nd
  refine w_for S (ji_enumT (K := K) (xs := bs) (r := pK) (je_fld (K := K) (je_v 0 fun _ => pv 0) TL.c TL.bl lk_bl) fun _ => T.bt.enumerate) (fun y => jg_tup2 (K := K) (jg_name 2 fun _ => pg_name scLB.nd rfl (by first | exact .inl rfl | exact .inr rfl)) (jg_name 3 fun _ => pg_name scLB.nd rfl (by first | exact .inl rfl | exact .inr rfl)))
    (fun pre => [.pr (pLn K C bs), .pr (pI ((pre.foldl stU 0 : Nat) : Int)), .un, .un, .un, .un]) (Wk.refl _) (by simp) ?_ ?_
  · intro xs' P0' H0' _ pre y post hys ow σ P H S
    obtain ⟨i, b⟩ := y
    rw [List.foldl_append]
    show XS _ _ _ _ _
    generalize pre.foldl stU 0 = a at S ⊢
    refine w_if S (q := decide (b = .up)) (JT.is (jt_cmp (fun _ => op_eq) (rv_eq (kb_scal _ _)) (je_v 3 fun _ => pv 3) je_s (nomark _)) (kb_up b)) (fun h P H S => ?_) (fun h P H S => w_nil (w_nil ?_))
    · have h : b = .up := by simpa using h
      refine w_asg 1 (R := pI (i : Nat)) S (je_v 2 fun _ => pv 2) (fun ow σ P H S => w_nil (w_nil ?_)) scLB.nd
      have e : [(i, b)].foldl stU a = i := by
        show stU a (i, b) = i
        unfold stU
        rw [if_pos h]
      rw [e]
      exact at8 S (.keep (.keep (.drop (.drop (Wk.refl _)))))
    · have h : ¬ b = .up := by simpa using h
      have e : [(i, b)].foldl stU a = a := by
        show stU a (i, b) = a
        unfold stU
        rw [if_neg h]
      rw [e]
      exact at8 S (.keep (.keep (.drop (.drop (Wk.refl _)))))
  · intro ow σ P H S
    refine w_asgF 4 S (jf_lst ja_nil) (fun ow σ P H S => ?_) scLB.nd
    have hlu : (idx bs).foldl stU 0 = lastUp bs := rfl
    rw [hlu] at S
    refine w_for S (ji_enumT (K := K) (xs := bs) (r := pK) (je_fld (K := K) (je_v 0 fun _ => pv 0) TL.c TL.bl lk_bl) fun _ => T.bt.enumerate) (fun y => jg_tup2 (K := K) (jg_name 2 fun _ => pg_name scLB.nd rfl (by first | exact .inl rfl | exact .inr rfl)) (jg_name 3 fun _ => pg_name scLB.nd rfl (by first | exact .inl rfl | exact .inr rfl)))
      (fun pre => [.pr (pLn K C bs), .pr (pI ((lastUp bs : Nat) : Int)), .un, .un, .ow (oL ((pre.map (brPr (lastUp bs))).map (pSS K))), .un]) (Wk.refl _) (by simp) ?_ ?_
    · intro xs' P0' H0' _ pre y post hys ow σ P H S
      obtain ⟨i, b⟩ := y
      have hb : b ∈ bs := idx_snd (p := (i, b)) (by rw [hys]; simp)
      have hpl : pre.length ≤ 8 := by
        have := congrArg List.length hys
        rw [idx_len, List.length_append, List.length_cons] at this
        omega
      have hsz : (((pre.map (brPr (lastUp bs))).map (pSS K))).length < sizeLine := by rw [List.length_map, List.length_map, sizeLine_eq]; omega
      refine w_asg 5 (R := pS (sgn (lastUp bs) i)) S (je_if (q := decide (lastUp bs < i)) (JT.is (jt_cmp (fun _ => op_gt) rv_I0 (je_v 2 fun _ => pv 2) (je_v 1 fun _ => pv 1) (nomark _)) (decide_eq_decide.mpr (by omega))) (fun h => ?_) (fun h => ?_)) (fun ow σ P H S => ?_) scLB.nd
      · have h : lastUp bs < i := of_decide_eq_true h
        unfold sgn
        rw [if_pos h]
        exact je_s
      · have h : ¬ lastUp bs < i := of_decide_eq_false h
        unfold sgn
        rw [if_neg h]
        exact je_s
      refine w_if S (q := isE b) (JT.is (jt_cmp (fun _ => op_in_seq) (rv_isC (K := K) (kb_flat b) END_flat) (je_v 3 fun _ => pv 3) (je_END (fun _ => hE) tE) rfl) (inE_kb b)) (fun h P H S => ?_) (fun h P H S => ?_)
      · refine w_app 4 (R := pSS K (brPr (lastUp bs) (i, b))) S (fun _ => pv 4) (JE.is (je_tup K (ja_cons je_s (ja_cons (je_v 5 fun _ => pv 5) ja_nil))) ?_) rfl rfl hsz (fun ow P H S => w_nil (w_nil ?_))
        · cases b with
          | n k => exact absurd h (by simp [isE])
          | up => rfl
          | dn => rfl
        · rw [List.map_append, List.map_append]
          exact at8 S (.keep (.keep (.drop (.drop (.keep (.drop .nil))))))
      · obtain ⟨k, rfl⟩ : ∃ k, b = .n k := by cases b <;> first | exact ⟨_, rfl⟩ | exact absurd h (by simp [isE])
        refine w_app 4 (R := pSS K (brPr (lastUp bs) (i, .n k))) S (fun _ => pv 4) (JE.is (je_tup K (ja_cons (je_mulS (je_v 5 fun _ => pv 5) (je_v 3 fun _ => pv 3) (mulOk_sgn _ _ (hk k hb).2)) (ja_cons je_s ja_nil))) rfl) rfl rfl hsz (fun ow P H S => w_nil (w_nil ?_))
        rw [List.map_append, List.map_append]
        exact at8 S (.keep (.keep (.drop (.drop (.keep (.drop .nil))))))
    · intro ow σ P H S
      obtain ⟨ow, P, S, _, _⟩ := S.still (i := 4) rfl
      refine w_retN S (jn_brk (K := K) (last := lastUp bs) (prs := brPrs bs) (je_tup K (ja_cons (je_v 1 fun _ => pv 1) (ja_cons je_i ja_nil))) (je_tupleL (K := K) (je_v 4 fun _ => pv 4) (le_line (by rw [List.length_map]; unfold brPrs; rw [List.length_map, idx_len]; omega)) (fun _ => T.bt.tuple))) fun v fp P2 H2 S2 fr ok => kQ v fp P2 H2 S2.gr (fun b hb => ?_) ?_
      · obtain ⟨f1, f2⟩ := fr b hb
        exact ⟨S.gone f1, f2⟩
      · unfold brk
        rw [if_pos hu]
        exact ok
/-! ### _law_breaker_due -/
abbrev sBD : Stmt := top 48
abbrev nBD : List Str := ["blocks", "last", "pairs", "k", "sign"]
theorem scBD : FnScope nBD ["blocks"] (defScope sBD) := ⟨rfl, rfl, rfl, by decide +kernel, rfl, by decide +kernel, by decide +kernel⟩
abbrev spBD (K : PySem.W.Frag) : Sp := spF (fun bs : Ln => [pL (bs.map pK)]) okLn (fun bs => pBrk K (brk bs))
theorem idx_range (bs : Ln) : ∀ k ∈ List.range bs.length, ∃ b, bs[k]? = some b := fun k hk => ⟨_, List.getElem?_eq_getElem (List.mem_range.mp hk)⟩
def brAt (bs : Ln) (k : Nat) : Str × Str := match bs[k]? with
  | some b => brPr (lastUp bs) (k, b)
  | none => ("", "")
theorem brPrs_range (bs : Ln) : (List.range bs.length).map (brAt bs) = brPrs bs := by
  have e : (idx bs).map (·.1) = List.range bs.length := by
    unfold idx
    rw [List.map_fst_zip]
    simp
  unfold brPrs
  rw [← e, List.map_map]
  refine List.map_congr_left fun y hy => ?_
  have := mem_idx.mp hy
  show brAt bs y.1 = _
  unfold brAt
  rw [this]
def isUp (bs : Ln) (k : Nat) : Bool := match bs[k]? with
  | some .up => true
  | _ => false
theorem ok_BD {f : Addr} {fd : FuncData} (F : FnP K "_law_breaker_due" sBD f fd) (T : Cst K mg) : FnOk Pg w K mg base CX0 1 f fd ["blocks"] (spBD K) := by
  refine fnF 0 F scBD (fun _ => rfl) fun cdv A outer s H0 Q E hr P0 bs σ pre S kQ => ?_
  obtain ⟨h8, hk⟩ := pre
  have ebs : pL (bs.map pK) = pL ((bs.map kb).map pV) := by rw [List.map_map]; rfl
  refine w_if S (q := !decide (Blk.up ∈ bs)) (JT.is (jt_cmp (fun _ => op_notIn_seq) (rv_niL (K := K) rfl (kb_allflat bs)) je_s (JE.is (je_v 0 fun _ => pv 0) ebs) rfl) (by rw [inV_up])) (fun h P H S => ?_) (fun h P H S => w_nil ?_)
  · have h : Blk.up ∉ bs := by simpa using h
    refine w_ret S je_n fun v P H S r => kQ v P H S.gr ?_
    unfold brk
    rw [if_neg h]
    exact r
  have hu : Blk.up ∈ bs := by simpa using h
  have rng : ∀ (G : Unit → Cx) (ss : List Sl) (tg : Expr) (p1 p2 p3 p4 p5 : Pos), True := fun _ _ _ _ _ _ _ _ => trivial
  have e3 : (((List.range bs.length).filter (isUp bs)).map fun k : Nat => pI (k : Int)) = (((List.range bs.length).filter (isUp bs)).map fun k : Nat => (k : Int)).map fun n => pI n := by rw [List.map_map]; rfl
  have hlu := lastUp_at hu
  have hll := (List.getElem?_eq_some_iff.mp hlu).1
  refine w_asg 1 (R := pI ((lastUp bs : Nat) : Int)) S (je_maxL (K := K) (ns := ((List.range bs.length).filter (isUp bs)).map fun k : Nat => (k : Int)) (JE.is (JF.je (jf_lc (α := Nat) (ys := List.range bs.length) (r := fun k : Nat => pI (k : Int)) [("k", 3)] [.pr (pL (bs.map pK)), .un, .un, .un, .un] (JI.is (ji_range (JE.is (je_lenL (K := K) (je_v 0 fun _ => pv 0) (fun _ => T.bt.len)) (congrArg (fun z : Nat => pI (z : Int)) (List.length_map _))) (by omega) (by omega) (hm := fun _ => T.bt.range)) (by
      rw [Int.toNat_natCast]
      exact List.map_congr_left fun i _ => congrArg (fun z => pI z) (by omega))) (fun _ => blkOk_by (N := nBD) (sc := defScope sBD) (by decide +kernel)) (Wk.refl _) rfl
      (fun y => jg_name 3 fun _ => pg_name scBD.nd rfl (by first | exact .inl rfl | exact .inr rfl)) (by simp) (by simp) (isUp bs) (fun k : Nat => pI (k : Int)) (fun k hkk => ?_) (fun k _ _ => je_v 3 fun _ => pv 3) (le_line (by rw [List.length_range]; omega)) (fun _ => scBD.nd))) (congrArg pL e3)) ?_ ?_ (fun _ => T.bt.max)) (fun ow σ P H S => ?_) scBD.nd
  · obtain ⟨b, hb⟩ := idx_range bs k hkk
    refine jts_one (JT.is (jt_cmp (fun _ => op_eq) (rv_eq (kb_scal b _)) (je_ixL (K := K) (R := pK b) (je_v 0 fun _ => pv 0) (je_v 3 fun _ => pv 3) (fun _ _ => rfl) (bs_ix hb).1 (bs_ix hb).2) je_s (nomark _)) ?_)
    rw [kb_up]
    unfold isUp
    rw [hb]
    cases b <;> rfl
  · exact List.mem_map.mpr ⟨lastUp bs, List.mem_filter.mpr ⟨List.mem_range.mpr hll, by unfold isUp; rw [hlu]⟩, rfl⟩
  · intro y hy
    obtain ⟨k, hkk, rfl⟩ := List.mem_map.mp hy
    have h2 := (List.mem_filter.mp hkk).2
    unfold isUp at h2
    split at h2
    · rename_i he
      have := lastUp_max he
      show (k : Int) ≤ (lastUp bs : Int)
      omega
    · cases h2
  refine w_asgF 2 S (jf_lst ja_nil) (fun ow σ P H S => ?_) scBD.nd
  refine w_for (ys := List.range bs.length) (r := fun k : Nat => pI (k : Int)) S (JI.is (ji_range (JE.is (je_lenL (K := K) (je_v 0 fun _ => pv 0) (fun _ => T.bt.len)) (congrArg (fun z : Nat => pI (z : Int)) (List.length_map _))) (by omega) (by omega) (hm := fun _ => T.bt.range)) (by
      rw [Int.toNat_natCast]
      exact List.map_congr_left fun i _ => congrArg (fun z => pI z) (by omega))) (fun y => jg_name 3 fun _ => pg_name scBD.nd rfl (by first | exact .inl rfl | exact .inr rfl))
    (fun pre => [.pr (pL (bs.map pK)), .pr (pI ((lastUp bs : Nat) : Int)), .ow (oL ((pre.map (brAt bs)).map (pSS K))), .un, .un]) (Wk.refl _) (by simp) ?_ ?_
  · intro xs' P0' H0' _ pre i post hys ow σ P H S
    have him : i ∈ List.range bs.length := by rw [hys]; simp
    obtain ⟨b, hb⟩ := idx_range bs i him
    have hbm := List.mem_of_getElem? hb
    have hpl : pre.length ≤ 8 := by
      have := congrArg List.length hys
      rw [List.length_range, List.length_append, List.length_cons] at this
      omega
    have hsz : (((pre.map (brAt bs)).map (pSS K))).length < sizeLine := by rw [List.length_map, List.length_map, sizeLine_eq]; omega
    have eat : brAt bs i = brPr (lastUp bs) (i, b) := by unfold brAt; rw [hb]
    refine w_asg 4 (R := pS (sgn (lastUp bs) i)) S (je_if (q := decide (lastUp bs < i)) (JT.is (jt_cmp (fun _ => op_gt) rv_I0 (je_v 3 fun _ => pv 3) (je_v 1 fun _ => pv 1) (nomark _)) (decide_eq_decide.mpr (by omega))) (fun h => ?_) (fun h => ?_)) (fun ow σ P H S => ?_) scBD.nd
    · have h : lastUp bs < i := of_decide_eq_true h
      unfold sgn
      rw [if_pos h]
      exact je_s
    · have h : ¬ lastUp bs < i := of_decide_eq_false h
      unfold sgn
      rw [if_neg h]
      exact je_s
    have ix : ∀ {p1 p2 p3 : Pos} {ss : List Sl}, ss[0]? = some (.pr (pL (bs.map pK))) → ss[3]? = some (.pr (pI (i : Int))) → JE (C1 (cxOf CX0 Pg w K mg base nBD "_law_breaker_due" (defScope sBD) f cdv A outer s H0 E).nox) (.Subscript (.Name "blocks" p1) (.Name "k" p2) p3) ss (pK b) ss := fun {p1 p2 p3 ss} g0 g3 => je_ixL (K := K) (R := pK b) (je_v 0 (fun _ => pv 0) g0) (je_v 3 (fun _ => pv 3) g3) (fun _ _ => rfl) (bs_ix hb).1 (bs_ix hb).2
    refine w_if S (q := isE b) (jt_val (je_isi (K := K) (t := ty b) (T := "str") (ix rfl rfl) (fun P H v _ e => by obtain rfl := e; exact kb_ty b) (kit_b b) (fun _ => T.bt.isinstance) (fun _ => T.bt.str) (by decide +kernel))) (fun h P H S => ?_) (fun h P H S => ?_)
    · refine w_app 2 (R := pSS K (brAt bs i)) S (fun _ => pv 2) (JE.is (je_tup K (ja_cons je_s (ja_cons (je_v 4 fun _ => pv 4) ja_nil))) ?_) rfl rfl hsz (fun ow P H S => w_nil (w_nil ?_))
      · rw [eat]
        cases b with
        | n k => exact absurd h (by simp [isE])
        | up => rfl
        | dn => rfl
      · rw [List.map_append, List.map_append]
        exact at8 S (.keep (.keep (.keep (.drop (.drop .nil)))))
    · obtain ⟨k, rfl⟩ : ∃ k, b = .n k := by cases b <;> first | exact ⟨_, rfl⟩ | exact absurd h (by simp [isE])
      refine w_app 2 (R := pSS K (brAt bs i)) S (fun _ => pv 2) (JE.is (je_tup K (ja_cons (je_mulS (je_v 4 fun _ => pv 4) (ix rfl rfl) (mulOk_sgn _ _ (hk k hbm).2)) (ja_cons je_s ja_nil))) (by rw [eat]; rfl)) rfl rfl hsz (fun ow P H S => w_nil (w_nil ?_))
      rw [List.map_append, List.map_append]
      exact at8 S (.keep (.keep (.keep (.drop (.drop .nil)))))
  · intro ow σ P H S
    obtain ⟨ow, P, S, _, _⟩ := S.still (i := 2) rfl
    rw [brPrs_range] at S
    refine w_ret S (jb_brk (K := K) (jn_brk (K := K) (last := lastUp bs) (prs := brPrs bs) (je_tup K (ja_cons (je_v 1 fun _ => pv 1) (ja_cons je_i ja_nil))) (je_tupleL (K := K) (je_v 2 fun _ => pv 2) (le_line (by unfold brPrs; rw [List.length_map, List.length_map, idx_len]; omega)) (fun _ => T.bt.tuple)))) fun v P2 H2 S2 r => kQ v P2 H2 S2.gr ?_
    unfold brk
    rw [if_pos hu]
    exact r
end
end K74
/-! try .. except X as n: return f(n); defs that look at a caught error. -/
namespace Ly
open PySem PySem.Spec PyProof.Rows L2
/-- a def of one argument, the error that is being handled -/
structure FnE (P : Program) (w : World) (K : PySem.W.Frag) (mg : Str → Option Value) (base : Heap) (k : Nat) (f : Addr) (fd : FuncData) (y : Str) (sp : Value → Option Addr → Hp → VK → Prop) : Prop where
  run : ∀ (A : Around) (outer : List Env) (s : Shared) (H : Hp) (args : Args) (p : Addr × Obj) (cls : Value) (d : Option Addr) (Q : VK), A.guards = some [] → L2H.RoomH k A → L2H.PinOk outer H s p → Zc cls d p.2 → (∃ vs, p.2.data = .fields vs) → Env0 P w K mg base A outer s H →
    BindsTo s fd args [(y, .ref p.1)] → sp cls d H Q → codeAny (model P w) A (.call (.ref f) args) (CR CX0 outer P w H s Q E0) s
section
variable {P : Program} {w : World} {K : PySem.W.Frag} {mg : Str → Option Value} {base : Heap} {x qual y : Str} {st : Stmt} {f : Addr} {fd : FuncData} {N : List Str} {k : Nat} {sp : Value → Option Addr → Hp → VK → Prop}
theorem FnE.of (F : Fun K x qual st f fd) (S : FnScope N [y] (defScope st))
    (hbody : ∀ (cdv : Value) (A : Around) (outer : List Env) (s : Shared) (H : Hp) (p : Addr × Obj) (cls : Value) (d : Option Addr) (Q : VK), Zc cls d p.2 → (∃ vs, p.2.data = .fields vs) → L2H.RoomH k (A.deeper (envOfC qual (defScope st) s.heap.objs.size f cdv)) → (A.deeper (envOfC qual (defScope st) s.heap.objs.size f cdv)).guards = some [] → sp cls d H Q →
      XS (L2H.cxH CX0 P w K mg base N qual (defScope st) f cdv A outer s H E0 p) (defBody st) { nx := fun _ H' => Q .non H', rt := Q } (L2.start N [.ref p.1]) H) : FnE P w K mg base (k + 1) f fd y sp := by
  obtain ⟨oc, od, kV, doc, pm, an, cdv, ct, osl, rfl, lk, hcd⟩ := F.ex
  refine ⟨fun A outer s H args p cls d Q hgd hr hpin hz hf e0 hb hsp => ?_⟩
  have hin : K.In s.heap := e0.mod.kin.keeps fun b o e => (e0.bs b o e).1
  have hlim : s.heap.NoLimit := e0.mod.nolimit.keeps fun b o e => (e0.bs b o e).1
  have rv : Vals [V.ref p.1] [Value.ref p.1] := .cons rfl .nil
  refine codeAny_call_function hr.depth (hin _ _ lk) rfl S.co S.gen rfl (PySem.W.codeRec_of hin hcd) (hb _ _ _ _ (wpAny_newFunctionEnv_cells S.kind (fun q hq => ?_) fun env he s1 z => ?_))
  · have hq : q.1 = y := by
      have : q = (y, Value.ref p.1) := by simpa using hq
      rw [this]
    rcases S.par q.1 (by rw [hq]; simp) with c | c
    · exact .inl c
    · exact .inr ⟨c, PySem.W.cellsFrom_some _ _ _ (.inl c)⟩
  · subst he
    refine ⟨hlim.keeps z.toInCall.keep, codeAny_func ?_⟩
    have I : Inv (L2H.cxH CX0 P w K mg base N qual (defScope st) f cdv A outer s H E0 p) [] (L2.start N [.ref p.1]) H s1 := L2H.inv_startH S hpin e0 rfl rv z
    refine wpAny_mono (Ly.xs.run [] s1 _ H _ I (hbody cdv A outer s H p cls d Q hz hf (hr.deeper _) (deeper_guards A _ hgd) hsp)) (fun fl s' hs => ?_) fun e s' hs => hs
    cases fl with
    | ret u =>
      obtain ⟨v, σ', H', J, r2, q⟩ := hs
      exact ⟨v, H', J.os, J.bare, J.base, J.hok, r2, q⟩
    | next =>
      obtain ⟨σ', H', J, q⟩ := hs
      exact ⟨.non, H', J.os, J.bare, J.base, J.hok, rfl, q⟩
    | brk =>
      obtain ⟨_, _, _, q⟩ := hs
      exact q.elim
    | cont =>
      obtain ⟨_, _, _, q⟩ := hs
      exact q.elim
end
section
variable {X : Cx} {a : Addr} {oe : Obj} {pn : List (Addr × Obj)} {x y : Str} {k : Nat} {f : Addr} {fd : FuncData} {sp : Value → Option Addr → Hp → VK → Prop} {cls : Value} {d : Option Addr} {e : Expr} {te : TE} {q pos : Pos}
/-- f(e) in an except suite, e the error -/
theorem pe_callE (F : FnE X.prog X.w X.K X.mg X.base k f fd y sp) (hr : Room k X.A) (hgd : X.A.guards = some []) (hg : Gl X x) (hm : X.mg x = some (.ref f)) (hk : PySem.W.keepIn X.K (.ref f) = true) (hb : Binds X.K fd [y] []) (hz : Zc cls d oe) (hf : ∃ vs, oe.data = .fields vs)
    (he : PE (X.suite a ((a, oe) :: pn)) e te) (hdb : (x == ("__debug__" : Str)) = false := by decide) (hst : starEach [e] X.env = (false, eval e X.env) :: starEach [] X.env := by rfl) (hpl : (backTo pos (starEach [] X.env)).any (·.1) = false := by rfl) :
    PE (X.suite a ((a, oe) :: pn)) (.Call (.Name x q) [e] [] pos) (fun σ H Q => te σ H fun v H1 => [v] = [V.ref a] ∧ sp cls d H1 Q) := by
  refine ⟨fun pins s σ H Q I h => wpAny_Call_Name_kw (ld_glob I hg hm ?_ hdb)⟩
  have ha : PA (X.suite a ((a, oe) :: pn)) [e] (tCons te tNil) := pa_cons he pa_nil hst
  refine PySem.W.callWith_K (h₀ := X.base) I.ok.mod.kin hk (thn (ha.run pos pins s σ H (fun vs H1 => vs = [.ref a] ∧ sp cls d H1 Q) I ?_) fun us s1 ⟨vs, H1, I1, r, ev, hq⟩ => ⟨I1.kIn, ?_⟩) hst hpl
  · exact h
  · subst ev
    cases r with
    | cons r1 r2 =>
      cases r2
      cases r1
      have hb' := hb s1 [.ref a] I1.kIn rfl
      rw [List.append_nil] at hb'
      have P1 := I1.pin (a, oe) (List.mem_append_left _ List.mem_cons_self)
      have hpin : L2H.PinOk X.stack H1 s1 (a, oe) := ⟨P1.1, P1.2.1, fun hm => (List.mem_cons.mp (I1.stkSub a hm)).elim P1.2.2.1 P1.2.2.2.1, P1.2.2.2.2⟩
      have hrm : L2H.RoomH k (X.A.mark (some (.ref a))) := ⟨hr.dp, hr.un⟩
      refine wpAny_call (codeAny_mono (F.run (X.A.mark (some (.ref a))) X.stack s1 H1 ⟨[.ref a], []⟩ (a, oe) cls d Q hgd hrm hpin hz hf I1.env0 hb' hq) fun r s' hq => ?_)
      cases r with
      | error e => exact hq.elim
      | ok fl =>
        cases fl with
        | ret u => exact I1.after hq
        | next => exact hq.elim
        | brk => exact hq.elim
        | cont => exact hq.elim
end
end Ly
/-! A caught error: isinstance, its field; the try itself. -/
namespace Ly
open PySem PySem.Spec PyProof.Rows L2
/-- the error at a, its dict at dd, with the one field f -/
def pEx (a dd : Addr) (f : Str) (R : Pr) : Pr := ⟨fun P v => v = .ref a ∧ ∃ y, P dd = some (.xd [(f, y)]) ∧ R.p P y, fun e ⟨h1, y, h2, h3⟩ => ⟨h1, y, e _ _ h2, R.up e h3⟩⟩
section
variable {X : Cx} {p : Addr × Obj} {C dd : Addr} {f : Str} {R : Pr} {ss ss1 : List Sl} {e e2 : Expr} {pos pos2 : Pos} {c : V} {cv : Value} {b : Bool}
theorem inst_of {pins : List (Addr × Obj)} {σ : L2.St} {H : Hp} {s : Shared} {fs : List (Str × V)} (I : Inv X pins σ H s) (hp : p ∈ X.pn) (hz : Zc (.ref C) (some dd) p.2) (hf : ∃ vs, p.2.data = .fields vs) (hd : H dd = some (.xd fs)) :
    ∃ (od : Obj) (mA : Str → Option Value), PySem.W.InstAt s.heap p.1 p.2 C (some od) ∧ (∀ n, PySem.W.lookIn n od = some (mA n)) ∧ ∀ n, RelO (fs.lookup n) (mA n) := by
  have hx : ObjOk X.prog X.w H s.heap dd (.xd fs) := I.hok dd _ hd
  obtain ⟨mA, hns, hr⟩ := hx
  obtain ⟨od, ho, hl⟩ := lookIn_ns hns
  obtain ⟨vs, hv⟩ := hf
  have hg := (I.pin p (List.mem_append_left _ hp)).1
  exact ⟨od, mA, ⟨hg, hz.1, by unfold PySem.W.notCls; rw [hv] <;> rfl, by rw [hz.2]; exact ho⟩, hl, hr⟩
def rIsX (dd : Addr) (a : Addr) (c : V) (b : Bool) : List V → Hp → VK → Prop := fun xs H Q => xs = [.ref a, c] ∧ (∃ fs, H dd = some (.xd fs)) ∧ Q (.bl b) H
theorem call_isX (hp : p ∈ X.pn) (hz : Zc (.ref C) (some dd) p.2) (hf : ∃ vs, p.2.data = .fields vs) (T : ExcC X.K C) (hcv : ∀ u, RelV c u → u = cv) (hk : PySem.W.kitOne X.K (.ref C) cv = some b) : CallR X (.builtin "isinstance") (rIsX dd p.1 c b) := by
  intro pins s σ H xs us Q I r h
  obtain ⟨rfl, ⟨fs, hd⟩, q⟩ := h
  obtain ⟨od, mA, J, _, _⟩ := inst_of I hp hz hf hd
  cases r with
  | cons rx rr =>
    cases rr with
    | cons rt rr =>
      cases rr
      cases rx
      have ec := hcv _ rt
      subst ec
      have hcl : (PySem.W.clsIn X.K C).isSome = true := by
        obtain ⟨cd, hc, _⟩ := PySem.W.any_some T.hd
        rw [hc]
        rfl
      exact PySem.W.kia_one (PySem.W.kitx_exc hcl T.hg T.hk T.hs T.ha T.hn T.ht T.hm) I.kIn J hk (fun z => nomatch z) fun tk => ⟨.bl b, H, I.kept (t' := tk) fun _ _ z => z, rfl, q⟩
theorem je_isX (hp : p ∈ X.pn) (hz : Zc (.ref C) (some dd) p.2) (hf : ∃ vs, p.2.data = .fields vs) (T : ExcC X.K C) (hcv : ∀ u, RelV c u → u = cv) (hk : PySem.W.kitOne X.K (.ref C) cv = some b) (ha : JE (C1 X) e ss (pEx p.1 dd f R) ss1) (h2 : PE X e2 (tC c)) (hm : X.mg "isinstance" = none)
    (hg : Gl X "isinstance" := by rfl) (hs2 : starEach [e2] X.env = (false, eval e2 X.env) :: starEach [] X.env := by rfl) (he : starEach [e, e2] X.env = (false, eval e X.env) :: starEach [e2] X.env := by rfl) (hpl : (backTo pos (starEach [e2] X.env)).any (·.1) = false := by rfl) :
    JE (C1 X) (.Call (.Name "isinstance" pos2) [e, e2] [] pos) ss (pB b) ss1 :=
  je_cb (Rs := [pEx p.1 dd f R, pV c]) (r := rIsX dd p.1 c b) (fun _ => call_isX hp hz hf T hcv hk) (fun P H vs Q l r k => by
    obtain ⟨v1, v2, rfl, r1, r2⟩ := pl2 r
    obtain ⟨h1, y, h3, _⟩ := r1
    obtain rfl : v2 = c := r2
    subst h1
    exact ⟨rfl, ⟨_, l.at h3 fun z => z⟩, k _ P H (Gr.refl l) rfl⟩) (ja_cons ha (ja_cons (je_c fun _ => h2) ja_nil (fun _ => hs2)) (fun _ => he)) (fun _ => hm) (by decide +kernel) (fun _ => hg) (by decide) (by decide) (fun _ => he) (fun _ => hpl)
/-- e.f of the error -/
theorem je_xfE (hp : p ∈ X.pn) (hz : Zc (.ref C) (some dd) p.2) (hf : ∃ vs, p.2.data = .fields vs) (T : XfC X.K C) (hno : PySem.W.findIn X.K (.ref C) f = some none) (ha : JE (C1 X) e ss (pEx p.1 dd f R) ss1) (hb : attributeBase e f X.env (eval e X.env) = eval e X.env := by rfl) :
    JE (C1 X) (.Attribute e f pos) ss R ss1 := fun xs P0 H0 ow σ P H S Q k =>
  ⟨fun σ H Q => XE (C1 X) e σ H fun v H1 => v = .ref p.1 ∧ ∃ y, H1 dd = some (.xd [(f, y)]) ∧ Q y H1, fun _ => ⟨fun pins s σ H Q I h => by
    refine attr_of hb (thn ((xe (F := C1 X) ()).run pins s σ H _ I h) fun u s1 ⟨x, H1, I1, rx, ex, y, ed, q⟩ => ?_)
    subst ex
    cases rx
    obtain ⟨od, mA, J, hl, hr⟩ := inst_of I1 hp hz hf ed
    have h1 := hr f
    have e1 : ([(f, y)] : List (Str × V)).lookup f = some y := by simp [List.lookup]
    rw [e1] at h1
    obtain ⟨u, hu, ru⟩ := RelO.some_of (v := y) (o := mA f) h1
    exact HandSPX.exc_get I1.kIn J T.ga T.gg T.exC (PySem.W.findObj_own T.hdC hno rfl (by rw [hl, hu])) (handed_of ru) ⟨y, H1, I1.tok _, ru, q⟩⟩, ha _ _ _ _ _ _ _ S _ fun v P2 H2 S2 e2 r2 => by
    obtain ⟨h1, y, h3, h4⟩ := r2
    exact ⟨h1, y, S2.ld.at h3 (fun z => z), k y P2 H2 S2 e2 h4⟩⟩
end
/-! ### try -/
section
variable {X : Cx} {K : PySem.W.Frag} {σ : L2.St} {H : Hp} {D : Ends} {rest body suite : List Stmt} {b0 : Stmt} {x n : Str} {c : Value} {np pos pos' : Pos} {Wout : WX}
/-- what an except suite wants -/
def tSuite (X : Cx) (sts : List Stmt) : Addr → Value → Option Addr → TS := fun a cls d D σ H => ∀ oe pn, Zc cls d oe → (∃ vs, oe.data = .fields vs) → XS (X.suite a ((a, oe) :: pn)) sts D σ H
theorem w_tryAs (i : Nat) (hs : X.stack = X.env :: X.outer) (hf : X.env.frame = some X.env.locals) (hN : X.N.Nodup) (hi : X.N[i]? = some n) (hln : X.env.kindOf n = some .local) (hc : Names X x c) (tk : Takes X Wout)
    (hb : ∀ (pn : List (Addr × Obj)) (xe : Value → Shared → Prop), Takes (X.tr pn xe) (wAs X.K c i (tSuite X (b0 :: suite)) Wout { D with nx := XS X rest D }) → XS (X.tr pn xe) body { D with nx := XS X rest D } σ H) :
    XS X (.Try body [.ExceptHandler (some (.Name x np)) (some n) (b0 :: suite) pos'] [] [] pos :: rest) D σ H :=
  w_cons ⟨_, ps_try_as (tb := fun W D σ H => ∀ (pn : List (Addr × Obj)) (xe : Value → Shared → Prop), Takes (X.tr pn xe) W → XS (X.tr pn xe) body D σ H) (ts := tSuite X (b0 :: suite)) hs hf hN hi hln hc tk
    (fun W pn xe tk _ => ⟨fun pins s σ H D I h => Ly.xs.run pins s σ H D I (h pn xe tk)⟩) (fun a oe cls d pn hz hf => ⟨fun pins s σ H D I h => Ly.xs.run pins s σ H D I (h oe pn hz hf)⟩), hb⟩
theorem wAs_of {i : Nat} {ts : Addr → Value → Option Addr → TS} {cls : Value} {d : Option Addr} (he : PySem.W.exmOne K cls c = some true) (h : ∀ a, H a = none → ts a cls d { nx := fun σ' H' => D.nx (σ'.set i none) H', rt := D.rt, bk := fun σ' H' => D.bk (σ'.set i none) H', ct := fun σ' H' => D.ct (σ'.set i none) H' } (σ.set i (some (.ref a))) H) :
    wAs K c i ts Wout D cls d σ H := ⟨true, he, fun _ => h, fun z => absurd z (by decide)⟩
/-- except .. as n: return f(n) -/
theorem s_retE {k i : Nat} {f : Addr} {fd : FuncData} {y g : Str} {sp : Value → Option Addr → Hp → VK → Prop} {cls : Value} {d : Option Addr} {a : Addr} {q q2 : Pos} (F : FnE X.prog X.w X.K X.mg X.base k f fd y sp) (hr : Room k X.A) (hgd : X.A.guards = some []) (hg : Gl X g) (hm : X.mg g = some (.ref f)) (hk : PySem.W.keepIn X.K (.ref f) = true) (hb : Binds X.K fd [y] [])
    (hv : ∀ oe pn, PE (X.suite a ((a, oe) :: pn)) (.Name n q2) (tVar i)) (hσ : i < σ.length) (hsp : sp cls d H D.rt) (hdb : (g == ("__debug__" : Str)) = false := by decide) (hst : starEach [.Name n q2] X.env = (false, eval (.Name n q2) X.env) :: starEach [] X.env := by rfl) (hpl : (backTo pos (starEach [] X.env)).any (·.1) = false := by rfl) :
    tSuite X [.Return (some (.Call (.Name g q) [.Name n q2] [] pos)) pos'] a cls d D (σ.set i (some (.ref a))) H := fun oe pn hz hf =>
  w_cons ⟨_, ps_ret (pe_callE F hr hgd hg hm hk hb hz hf (hv oe pn) hdb hst hpl), .ref a, by rw [List.getElem?_set_self hσ], rfl, hsp⟩
end
end Ly
/-! _law_named -/
namespace K74
open PySem PySem.Spec PyProof.Rows L2 Ly M74
/-- the errors that the law meets -/
inductive ErD where
  | count (i : Int)
  | place (i j : Int)
  | apart (i : Int)
def ErD.C (cs : Cs) : ErD → Addr
  | .count _ => cs.count
  | .place _ _ => cs.place
  | .apart _ => cs.apart
def ErD.f : ErD → Str
  | .count _ => "count"
  | .place _ _ => "place"
  | .apart _ => "rounds"
def ErD.R (K : PySem.W.Frag) : ErD → Pr
  | .count i => pI i
  | .place i j => pT K [pI i, pI j]
  | .apart i => pI i
def ErD.er (K : PySem.W.Frag) (cs : Cs) (e : ErD) : Er := ⟨e.C cs, e.f, e.R K⟩
def ErD.nm : ErD → Str
  | .count _ => "count"
  | .place _ _ => "place"
  | .apart _ => "apart"
def ErD.d : ErD → PyData
  | .count i => .int i
  | .place i j => .tuple [.int i, .int j]
  | .apart i => .int i
def ErD.tx (e : ErD) : Str := e.d.shown
def ErD.small : ErD → Prop
  | .count i => i.natAbs ≤ 16000000
  | .place i j => i.natAbs ≤ 16000000 ∧ j.natAbs ≤ 16000000
  | .apart i => i.natAbs ≤ 16000000
theorem sh_len {i : Int} (h : i.natAbs ≤ 16000000) : (PyData.int i).shown.length ≤ 1921 := by
  rw [PyData.shown_int]
  exact int_text_len_1921 (log_small h)
theorem wr_int {i : Int} (h : i.natAbs ≤ 16000000) : Wr (.int i) := ⟨rfl, by simp [PyData.depth], by simp only [PyData.showable]; exact decide_eq_true (log_small h), Nat.le_trans (sh_len h) (by rw [sizeLine_eq]; decide)⟩
theorem wr_pair {i j : Int} (h : i.natAbs ≤ 16000000) (h2 : j.natAbs ≤ 16000000) : Wr (.tuple [.int i, .int j]) := by
  refine ⟨rfl, by simp [PyData.depth, PyData.depthAll], ?_, ?_⟩
  · simp only [PyData.showable, PyData.showableAll, Bool.and_true, Bool.and_eq_true]
    exact ⟨decide_eq_true (log_small h), decide_eq_true (log_small h2)⟩
  · have a1 := sh_len h
    have a2 := sh_len h2
    have t := tupleText_len_le [(PyData.int i).shown, (PyData.int j).shown]
    have e : (PyData.tuple [.int i, .int j]).shown = tupleText [(PyData.int i).shown, (PyData.int j).shown] := by simp only [PyData.shown, PyData.shownAll]
    rw [e, sizeLine_eq]
    simp only [List.map_cons, List.map_nil, List.sum_cons, List.sum_nil, List.length_cons, List.length_nil] at t
    omega
theorem ErD.wr {e : ErD} (h : e.small) : Wr e.d := by
  cases e with
  | count i => exact wr_int h
  | place i j => exact wr_pair h.1 h.2
  | apart i => exact wr_int h
theorem ErD.pd {K : PySem.W.Frag} (e : ErD) : PD K (e.R K) e.d := by
  cases e with
  | count i => exact pd_i
  | place i j => exact pd_t (pdl_cons pd_i (pdl_cons pd_i pdl_nil))
  | apart i => exact pd_i
/-- what is known of the classes of errors -/
structure NmK (K : PySem.W.Frag) (mg : Str → Option Value) (cs : Cs) : Prop where
  ec : ∀ e : ErD, ExcC K (e.C cs)
  xf : ∀ e : ErD, XfC K (e.C cs)
  no : ∀ e : ErD, PySem.W.findIn K (.ref (e.C cs)) e.f = some none
  k1 : ∀ e : ErD, PySem.W.kitOne K (.ref (e.C cs)) (.ref cs.count) = some (match e with | .count _ => true | _ => false)
  k2 : ∀ e : ErD, PySem.W.kitOne K (.ref (e.C cs)) (.ref cs.place) = some (match e with | .place _ _ => true | _ => false)
  k3 : ∀ e : ErD, PySem.W.kitOne K (.ref (e.C cs)) (.ref cs.apart) = some (match e with | .apart _ => true | _ => false)
  k4 : ∀ e : ErD, PySem.W.kitOne K (.ref (e.C cs)) (.ref cs.line) = some false
  k5 : ∀ e : ErD, PySem.W.kitOne K (.ref (e.C cs)) (.ref cs.wide) = some false
  k6 : ∀ e : ErD, PySem.W.kitOne K (.ref (e.C cs)) (.type "ValueError") = some true
  m1 : mg "BadCount" = some (.ref cs.count)
  m2 : mg "BadPlace" = some (.ref cs.place)
  m3 : mg "Apart" = some (.ref cs.apart)
  m4 : mg "BadLine" = some (.ref cs.line)
  m5 : mg "TooWide" = some (.ref cs.wide)
  rp : mg "repr" = none
theorem gr_cut {P H P2 H2 : Hp} {dd : Addr} {o : HO} (np : P dd = none) (g : Gr (upd P dd o) H P2 H2) : Gr P H (fun b => if b = dd then none else P2 b) H2 := by
  refine ⟨fun b u e => ?_, fun b u e => ?_, g.h, fun b h e => ?_⟩
  · have n : b ≠ dd := fun z => by rw [z, np] at e; cases e
    show (if b = dd then none else P2 b) = some u
    rw [if_neg n]
    exact g.p b u (by rw [upd_ne n]; exact e)
  · have e : (if b = dd then none else P2 b) = some u := e
    by_cases n : b = dd
    · rw [if_pos n] at e; cases e
    · rw [if_neg n] at e
      exact g.l b u e
  · show (if b = dd then none else P2 b) = none
    by_cases n : b = dd
    · rw [if_pos n]
    · rw [if_neg n]
      exact g.n b h (by rw [upd_ne n]; exact e)
def spNd (K : PySem.W.Frag) (cs : Cs) : Value → Option Addr → Hp → VK → Prop := fun cls d H Q => ∃ (P : Hp) (e : ErD) (dd : Addr) (y : V), Ld P H ∧ e.small ∧ cls = .ref (e.C cs) ∧ d = some dd ∧ P dd = none ∧ H dd = some (.xd [(e.f, y)]) ∧ (e.R K).p P y ∧ ∀ v P2 H2, Gr P H P2 H2 → (pT K [pS e.nm, pS e.tx]).p P2 v → Q v H2
section
variable {Pg : Program} {w : World} {K : PySem.W.Frag} {mg : Str → Option Value} {base : Heap} {cs : Cs}
abbrev sNd : Stmt := top 44
abbrev nNd : List Str := ["e", "found"]
theorem scNd : FnScope nNd ["e"] (defScope sNd) := ⟨rfl, rfl, rfl, by decide +kernel, rfl, by decide +kernel, by decide +kernel⟩
theorem relv_ref {C : Addr} : ∀ u, RelV (.ref C) u → u = .ref C := fun u h => h
theorem relv_ty {T : String} : ∀ u, RelV (.ty T) u → u = .type T := fun u h => h
theorem roomH64 {A : Around} {k : Nat} (h : L2H.RoomH k A) : A.units + 64 < cLine := by have := h.un; omega
theorem ok_Nd {f : Addr} {fd : FuncData} (F : FnP K "_law_named" sNd f fd) (T : Cst K mg) (N : NmK K mg cs) : FnE Pg w K mg base 1 f fd "e" (spNd K cs) := by
  refine FnE.of F scNd fun cdv A outer s H p cls d Q hz hf hr hgd h => ?_
  obtain ⟨P, e, dd, y, ld, hsm, rfl, rfl, np, hd, ry, q⟩ := h
  have np0 : Same P (upd P dd (.xd [(e.f, y)])) := same_upd np
  have ld' : Ld (upd P dd (.xd [(e.f, y)])) H := fun b u eb => by
    by_cases z : b = dd
    · subst z
      rw [upd_same] at eb
      cases eb
      exact .inl hd
    · rw [upd_ne z] at eb
      exact ld b u eb
  have S : S8 [] (upd P dd (.xd [(e.f, y)])) H [] (L2.start nNd [.ref p.1]) (upd P dd (.xd [(e.f, y)])) H [.pr (pEx p.1 dd e.f (e.R K)), .un] :=
    ⟨Same.refl _, ld', fun _ _ _ e => e, fun _ _ e => e, fun a ha => absurd ha (by simp), fun a ha => absurd ha (by simp), ini_all (Rs := [pEx p.1 dd e.f (e.R K)]) 1 (.cons ⟨rfl, y, upd_same, (e.R K).up np0 ry⟩ .nil)⟩
  have kQ : ∀ v P2 H2, Gr (upd P dd (.xd [(e.f, y)])) H P2 H2 → (pT K [pS e.nm, pS e.tx]).p P2 v → Q v H2 := fun v P2 H2 g r => by
    refine q v _ H2 (gr_cut np g) ?_
    obtain ⟨a, ys, rfl, h2, h3, h4⟩ := r
    have na : a ≠ dd := fun z => by
      have h5 : P2 dd = some (.xd [(e.f, y)]) := g.p _ _ upd_same
      have h2 : P2 a = some (.tup ys) := h2
      rw [z, h5] at h2
      cases h2
    refine ⟨a, ys, rfl, ?_, ?_, h4⟩
    · show (if a = dd then none else P2 a) = some (.tup ys)
      rw [if_neg na]
      exact h2
    · cases h3 with
      | cons r1 h3 =>
        cases h3 with
        | cons r2 h3 =>
          cases h3
          exact .cons r1 (.cons r2 .nil)
  have hp : p ∈ (L2H.cxH CX0 Pg w K mg base nNd "_law_named" (defScope sNd) f cdv A outer s H E0 p).pn := List.mem_singleton.mpr rfl
  refine w_asgF 1 S (jf_lst ja_nil) (fun ow σ P1 H1 S => ?_) scNd.nd
  have isx : ∀ {ss : List Sl} {x : Str} {c : V} {cv : Value} {b : Bool} {p1 p2 p3 p4 : Pos}, ss[0]? = some (.pr (pEx p.1 dd e.f (e.R K))) → PE (L2H.cxH CX0 Pg w K mg base nNd "_law_named" (defScope sNd) f cdv A outer s H E0 p) (.Name x p3) (tC c) → (∀ u, RelV c u → u = cv) → PySem.W.kitOne K (.ref (e.C cs)) cv = some b →
      JE (C1 (L2H.cxH CX0 Pg w K mg base nNd "_law_named" (defScope sNd) f cdv A outer s H E0 p)) (.Call (.Name "isinstance" p1) [.Name "e" p2, .Name x p3] [] p4) ss (pB b) ss := fun {ss x c cv b p1 p2 p3 p4} h0 hx hcv hk =>
    je_isX hp hz hf (N.ec e) hcv hk (je_v 0 (fun _ => pv 0) h0) hx T.bt.isinstance
  have fld : ∀ {ss : List Sl} {p1 p2 : Pos}, ss[0]? = some (.pr (pEx p.1 dd e.f (e.R K))) → JE (C1 (L2H.cxH CX0 Pg w K mg base nNd "_law_named" (defScope sNd) f cdv A outer s H E0 p)) (.Attribute (.Name "e" p1) e.f p2) ss (e.R K) ss := fun {ss p1 p2} h0 =>
    je_xfE hp hz hf (N.xf e) (N.no e) (je_v 0 (fun _ => pv 0) h0)
  have wr := ErD.wr hsm
  have rep : ∀ {ss : List Sl} {p0 p1 p2 p3 : Pos}, ss[0]? = some (.pr (pEx p.1 dd e.f (e.R K))) → JE (C1 (L2H.cxH CX0 Pg w K mg base nNd "_law_named" (defScope sNd) f cdv A outer s H E0 p)) (.Call (.Name "repr" p0) [.Attribute (.Name "e" p1) e.f p2] [] p3) ss (pS e.tx) ss := fun {ss p0 p1 p2 p3} h0 =>
    je_repr (K := K) (fld h0) (ErD.pd e) wr.sh wr.dp wr.sw wr.ln (fun _ => hgd) (fun _ => roomH64 hr) (fun _ => N.rp)
  have tail : ∀ (ow : List Addr) (σ : L2.St) (P1 H1 : Hp), S8 [] (upd P dd (.xd [(e.f, y)])) H ow σ P1 H1 [.pr (pEx p.1 dd e.f (e.R K)), .ow (oL [pT K [pS e.nm, pS e.tx]])] → XS (L2H.cxH CX0 Pg w K mg base nNd "_law_named" (defScope sNd) f cdv A outer s H E0 p) ((defBody sNd).drop 4) { nx := fun _ H' => Q .non H', rt := Q } σ H1 := by
    intro ow σ P1 H1 S
    refine w_if S (q := false) (jt_w (jw_or (q := false) (jt_val (isx rfl (pe_glob (v := .ref cs.line) rfl N.m4 rfl) relv_ref (N.k4 e))) fun _ => jw_or1 (jt_val (isx rfl (pe_glob (v := .ref cs.wide) rfl N.m5 rfl) relv_ref (N.k5 e))))) (fun h => absurd h (by decide)) (fun _ P1 H1 S => w_nil ?_)
    refine w_ret S (je_ifS (q := true) (R := pT K [pS e.nm, pS e.tx]) (ss2 := [.pr (pEx p.1 dd e.f (e.R K)), .ow (oL [pT K [pS e.nm, pS e.tx]])]) (jt_w (jw_and (q := true) (q' := true) (JT.is (jt_cmp (fun _ => op_eq) rv_eqI (je_lenO (K := K) 1 (fun _ => pv 1) (hm := fun _ => T.bt.len)) je_i (nomark _)) rfl) fun _ => jw_and1 (jt_val (isx rfl (pe_ty rfl T.bt.ValueError (by decide +kernel)) relv_ty (N.k6 e))))) (fun _ => ?_) (fun h => absurd h (by decide))) fun v P2 H2 S2 r => kQ v P2 H2 S2.gr r
    exact je_ixO (K := K) 1 (fun _ => pv 1) je_i rfl rfl (fun _ _ => rfl) (ixN_nat rfl (by simp)) rfl
  cases e with
  | count i =>
    refine w_if S (q := true) (jt_val (isx rfl (pe_glob (v := .ref cs.count) rfl N.m1 rfl) relv_ref (N.k1 (.count i)))) (fun _ P1 H1 S => ?_) (fun h => absurd h (by decide))
    refine w_app 1 (R := pT K [pS "count", pS (ErD.tx (.count i))]) S (fun _ => pv 1) (je_tup K (ja_cons je_s (ja_cons (rep rfl) ja_nil))) rfl rfl (by rw [sizeLine_eq]; decide) (fun ow P1 H1 S => w_nil ?_)
    refine w_if S (q := false) (jt_val (isx rfl (pe_glob (v := .ref cs.place) rfl N.m2 rfl) relv_ref (N.k2 (.count i)))) (fun h => absurd h (by decide)) (fun _ P1 H1 S => w_nil ?_)
    refine w_if S (q := false) (jt_val (isx rfl (pe_glob (v := .ref cs.apart) rfl N.m3 rfl) relv_ref (N.k3 (.count i)))) (fun h => absurd h (by decide)) (fun _ P1 H1 S => w_nil ?_)
    exact tail _ _ _ _ S
  | place i j =>
    refine w_if S (q := false) (jt_val (isx rfl (pe_glob (v := .ref cs.count) rfl N.m1 rfl) relv_ref (N.k1 (.place i j)))) (fun h => absurd h (by decide)) (fun _ P1 H1 S => w_nil ?_)
    refine w_if S (q := true) (jt_val (isx rfl (pe_glob (v := .ref cs.place) rfl N.m2 rfl) relv_ref (N.k2 (.place i j)))) (fun _ P1 H1 S => ?_) (fun h => absurd h (by decide))
    refine w_app 1 (R := pT K [pS "place", pS (ErD.tx (.place i j))]) S (fun _ => pv 1) (je_tup K (ja_cons je_s (ja_cons (rep rfl) ja_nil))) rfl rfl (by rw [sizeLine_eq]; decide) (fun ow P1 H1 S => w_nil ?_)
    refine w_if S (q := false) (jt_val (isx rfl (pe_glob (v := .ref cs.apart) rfl N.m3 rfl) relv_ref (N.k3 (.place i j)))) (fun h => absurd h (by decide)) (fun _ P1 H1 S => w_nil ?_)
    exact tail _ _ _ _ S
  | apart i =>
    refine w_if S (q := false) (jt_val (isx rfl (pe_glob (v := .ref cs.count) rfl N.m1 rfl) relv_ref (N.k1 (.apart i)))) (fun h => absurd h (by decide)) (fun _ P1 H1 S => w_nil ?_)
    refine w_if S (q := false) (jt_val (isx rfl (pe_glob (v := .ref cs.place) rfl N.m2 rfl) relv_ref (N.k2 (.apart i)))) (fun h => absurd h (by decide)) (fun _ P1 H1 S => w_nil ?_)
    refine w_if S (q := true) (jt_val (isx rfl (pe_glob (v := .ref cs.apart) rfl N.m3 rfl) relv_ref (N.k3 (.apart i)))) (fun _ P1 H1 S => ?_) (fun h => absurd h (by decide))
    refine w_app 1 (R := pT K [pS "apart", pS (ErD.tx (.apart i))]) S (fun _ => pv 1) (je_tup K (ja_cons je_s (ja_cons (rep rfl) ja_nil))) rfl rfl (by rw [sizeLine_eq]; decide) (fun ow P1 H1 S => w_nil ?_)
    exact tail _ _ _ _ S
end
end K74
/-! _law_try -/
namespace K74
open PySem PySem.Spec PyProof.Rows L2 Ly M74
open Classical in
noncomputable def anE (a : LAx) : Option ErD := if a.r < 1 ∨ 5 < a.r then some (.count a.r) else if a.s < 0 ∨ 1 < a.s then some (.count a.s) else
  if hasB a.own a.i a.j = false then some (.place a.i a.j) else if eB a.r.toNat a.x a.y = false then some (.apart a.r) else none
theorem anE_er (K : PySem.W.Frag) (cs : Cs) (a : LAx) : erAn K cs a = (anE a).map (ErD.er K cs) := by
  unfold erAn anE
  split
  · rfl
  · split
    · rfl
    · split
      · rfl
      · split
        · rfl
        · rfl
theorem anE_small {a : LAx} (h : preAn a) {e : ErD} (he : anE a = some e) : e.small := by
  unfold anE at he
  split at he
  · cases he; exact h.r
  · split at he
    · cases he; exact h.s
    · split at he
      · cases he; exact ⟨h.i, h.j⟩
      · split at he
        · cases he; exact h.r
        · cases he
/-- what _law_try gives: a name and a text, or the answer -/
noncomputable def tryR (K : PySem.W.Frag) (a : LAx) : Pr := match anE a with
  | some e => pT K [pS e.nm, pS e.tx]
  | none => pT K [pS "told", pP2 K (ans (a.r.toNat - 1) a.own (a.i.toNat, a.j.toNat) a.other)]
noncomputable abbrev spT1 (K : PySem.W.Frag) (cs : Cs) : Sp := spX (fun a : LAx => [pI 1, pLn K cs.Line a.x, pLn K cs.Line a.y, pI a.r, pI a.s, pPl K a.l a.i a.j]) preAn (tryR K) (fun _ => none)
abbrev cntR (K : PySem.W.Frag) (i : Int) : Pr := pT K [pS "count", pS (PyData.int i).shown]
abbrev spT0 (K : PySem.W.Frag) (cs : Cs) : Sp := spX (fun a : Ln × Ln × Int => [pI 0, pLn K cs.Line a.1, pLn K cs.Line a.2.1, pI a.2.2, pI 0, pI 0]) (fun a => a.2.2.natAbs ≤ 16000000 ∧ (a.2.2 < 0 ∨ 5 < a.2.2)) (fun a => cntR K a.2.2) (fun _ => none)
abbrev spT2 (K : PySem.W.Frag) : Sp := spX (fun r : Int => [pI 2, pI 0, pI 0, pI r, pI 0, pI 0]) (fun r => r.natAbs ≤ 16000000 ∧ (r < 1 ∨ 5 < r)) (fun r => cntR K r) (fun _ => none)
section
variable {w : World} {K : PySem.W.Frag} {mg : Str → Option Value} {base : Heap} {cs : Cs}
abbrev sTr : Stmt := top 45
abbrev nTr : List Str := ["which", "first", "second", "rounds", "side", "place", "told", "e"]
theorem scTr : FnScope nTr ["which", "first", "second", "rounds", "side", "place"] (defScope sTr) := ⟨rfl, rfl, rfl, by decide +kernel, rfl, by decide +kernel, by decide +kernel⟩
/-- _law_named as it stands -/
structure NdC (w : World) (K : PySem.W.Frag) (mg : Str → Option Value) (base : Heap) (cs : Cs) : Prop where
  ex : ∃ (f : Addr) (fd : FuncData), FnE PP w K mg base 1 f fd "e" (spNd K cs) ∧ mg "_law_named" = some (.ref f) ∧ PySem.W.keepIn K (.ref f) = true ∧ Binds K fd ["e"] []
/-- the class SayError, as except clauses ask it -/
structure SayK (K : PySem.W.Frag) (mg : Str → Option Value) (cs : Cs) : Prop where
  mg : mg "SayError" = some (.ref cs.say)
  ex : ∀ e : ErD, PySem.W.exmOne K (.ref (e.C cs)) (.ref cs.say) = some true
theorem ok_Tr1 {f : Addr} {fd : FuncData} (F : FnP K "_law_try" sTr f fd) (nd : NdC w K mg base cs) (sk : SayK K mg cs) (cA : ∀ A : Around, Room 7 A → CalR PP w K mg base A "line_answer" (spAn K cs)) :
    FnG PP w K mg base 8 f fd ["which", "first", "second", "rounds", "side", "place"] (spT1 K cs) := by
  refine fnXG 7 F scTr (fun _ => rfl) fun X cdv A outer s H0 Q E hX hr hgd tk P0 a σ pre S kQ kE => ?_
  obtain ⟨fN, fdN, FN, mN, kN, bN⟩ := nd.ex
  have hX2 := hX
  subst hX2
  have hσ : σ.length = 8 := by rw [S.sl.len]; rfl
  refine w_tryAs 7 rfl rfl scTr.nd rfl rfl ⟨rfl, by decide, .inl sk.mg⟩ tk fun pn xe tk2 => ?_
  refine w_if S (q := false) (JT.is (jt_cmp (fun _ => op_eq) rv_eqI (je_v 0 fun _ => pv 0) je_i (nomark _)) rfl) (fun h => absurd h (by decide)) (fun _ P H S => ?_)
  refine w_if S (q := true) (JT.is (jt_cmp (fun _ => op_eq) rv_eqI (je_v 0 fun _ => pv 0) je_i (nomark _)) rfl) (fun _ P H S => ?_) (fun h => absurd h (by decide))
  refine w_asgX 6 S tk2 (cA _ hr) a (ja_cons (je_v 1 fun _ => pv 1) (ja_cons (je_v 2 fun _ => pv 2) (ja_cons (je_v 3 fun _ => pv 3) (ja_cons (je_v 4 fun _ => pv 4) (ja_cons (je_v 5 fun _ => pv 5) ja_nil))))) pre (fun hn ow σ P H S => w_nil (w_nil (w_nil ?_))) (fun e he d y P H S e1 e2 e3 => ?_) scTr.nd
  · have hn2 : anE a = none := by
      rw [anE_er] at hn
      cases z : anE a with
      | none => rfl
      | some e => rw [z] at hn; cases hn
    refine w_ret S (je_tup K (ja_cons je_s (ja_cons (je_v 6 fun _ => pv 6) ja_nil))) fun v P H S r => kQ rfl v P H S.gr ?_
    show (tryR K a).p P v
    unfold tryR
    rw [hn2]
    exact r
  · rw [anE_er] at he
    obtain ⟨ed, hed, rfl⟩ : ∃ ed, anE a = some ed ∧ ErD.er K cs ed = e := by
      cases z : anE a with
      | none => rw [z] at he; cases he
      | some ed => rw [z] at he; exact ⟨ed, rfl, by injection he⟩
    refine wAs_of (sk.ex ed) fun b hb => s_retE FN (hr.mono (by decide)) hgd rfl mN kN bN (fun oe pn => pv 7) (by rw [hσ]; decide) ⟨P, ed, d, y, S.ld, anE_small pre hed, rfl, rfl, e1, e2, e3, fun v P2 H2 g r => ?_⟩
    have g0 : Gr P0 H0 P2 H2 := (S.grow g).gr
    refine kQ rfl v P2 H2 g0 ?_
    show (tryR K a).p P2 v
    unfold tryR
    rw [hed]
    exact r
theorem erCR_cnt {cs : Cs} {a : Int × Int} {e : Er} (K : PySem.W.Frag) (h : erCR cs a = some e) : e = ErD.er K cs (.count a.1) := by
  unfold erCR at h
  split at h
  · injection h with h
    exact h.symm
  · cases h
theorem ok_Tr0 {f : Addr} {fd : FuncData} (F : FnP K "_law_try" sTr f fd) (nd : NdC w K mg base cs) (sk : SayK K mg cs) (cA : ∀ A : Around, Room 7 A → CalR PP w K mg base A "lines_alike" (spLA K cs)) :
    FnG PP w K mg base 8 f fd ["which", "first", "second", "rounds", "side", "place"] (spT0 K cs) := by
  refine fnXG 7 F scTr (fun _ => rfl) fun X cdv A outer s H0 Q E hX hr hgd tk P0 a σ pre S kQ kE => ?_
  obtain ⟨fN, fdN, FN, mN, kN, bN⟩ := nd.ex
  have hX2 := hX
  subst hX2
  obtain ⟨x, y0, r⟩ := a
  obtain ⟨h1, h2⟩ := pre
  dsimp only at h1 h2 S
  have hσ : σ.length = 8 := by rw [S.sl.len]; rfl
  have hbad : erCR cs (r, 0) = some (ErD.er K cs (.count r)) := if_pos h2
  refine w_tryAs 7 rfl rfl scTr.nd rfl rfl ⟨rfl, by decide, .inl sk.mg⟩ tk fun pn xe tk2 => ?_
  refine w_if S (q := true) (JT.is (jt_cmp (fun _ => op_eq) rv_eqI (je_v 0 fun _ => pv 0) je_i (nomark _)) rfl) (fun _ P H S => ?_) (fun h => absurd h (by decide))
  refine w_asgX 6 S tk2 (cA _ hr) (x, y0, r) (ja_cons (je_v 1 fun _ => pv 1) (ja_cons (je_v 2 fun _ => pv 2) (ja_cons (je_v 3 fun _ => pv 3) ja_nil))) ⟨h1, fun z1 z2 => absurd h2 (by dsimp only at z1 z2; omega)⟩ (fun hn ow σ P H S => ?_) (fun e he d y P H S e1 e2 e3 => ?_) scTr.nd
  · have hn : erCR cs (r, 0) = none := hn
    rw [hbad] at hn
    cases hn
  · have he : erCR cs (r, 0) = some e := he
    rw [hbad] at he
    obtain rfl : ErD.er K cs (.count r) = e := by injection he
    refine wAs_of (sk.ex (.count r)) fun b hb => s_retE FN (hr.mono (by decide)) hgd rfl mN kN bN (fun oe pn => pv 7) (by rw [hσ]; decide) ⟨P, .count r, d, y, S.ld, h1, rfl, rfl, e1, e2, e3, fun v P2 H2 g r => ?_⟩
    exact kQ rfl v P2 H2 (S.grow g).gr r
theorem ok_Tr2 {f : Addr} {fd : FuncData} (F : FnP K "_law_try" sTr f fd) (nd : NdC w K mg base cs) (sk : SayK K mg cs) (cA : ∀ A : Around, Room 7 A → CalR PP w K mg base A "line_pair" (spLP K cs)) :
    FnG PP w K mg base 8 f fd ["which", "first", "second", "rounds", "side", "place"] (spT2 K) := by
  refine fnXG 7 F scTr (fun _ => rfl) fun X cdv A outer s H0 Q E hX hr hgd tk P0 r σ pre S kQ kE => ?_
  obtain ⟨fN, fdN, FN, mN, kN, bN⟩ := nd.ex
  have hX2 := hX
  subst hX2
  obtain ⟨h1, h2⟩ := pre
  have hσ : σ.length = 8 := by rw [S.sl.len]; rfl
  have hbad : erCR cs (r, 1) = some (ErD.er K cs (.count r)) := if_pos h2
  refine w_tryAs 7 rfl rfl scTr.nd rfl rfl ⟨rfl, by decide, .inl sk.mg⟩ tk fun pn xe tk2 => ?_
  refine w_if S (q := false) (JT.is (jt_cmp (fun _ => op_eq) rv_eqI (je_v 0 fun _ => pv 0) je_i (nomark _)) rfl) (fun h => absurd h (by decide)) (fun _ P H S => ?_)
  refine w_if S (q := false) (JT.is (jt_cmp (fun _ => op_eq) rv_eqI (je_v 0 fun _ => pv 0) je_i (nomark _)) rfl) (fun h => absurd h (by decide)) (fun _ P H S => ?_)
  refine w_asgX 6 S tk2 (cA _ hr) r (ja_cons (je_v 3 fun _ => pv 3) ja_nil) h1 (fun hn ow σ P H S => ?_) (fun e he d y P H S e1 e2 e3 => ?_) scTr.nd
  · have hn : erCR cs (r, 1) = none := hn
    rw [hbad] at hn
    cases hn
  · have he : erCR cs (r, 1) = some e := he
    rw [hbad] at he
    obtain rfl : ErD.er K cs (.count r) = e := by injection he
    refine wAs_of (sk.ex (.count r)) fun b hb => s_retE FN (hr.mono (by decide)) hgd rfl mN kN bN (fun oe pn => pv 7) (by rw [hσ]; decide) ⟨P, .count r, d, y, S.ld, h1, rfl, rfl, e1, e2, e3, fun v P2 H2 g r => ?_⟩
    exact kQ rfl v P2 H2 (S.grow g).gr r
end
end K74
/-! weights of lines and of their parts; what the calls of a play need -/
namespace K74
open PySem PySem.Spec PyProof.Rows L2 Ly M74
inductive Kd where
  | o
  | n
  | d
def kd (acc : Ln) : Kd := match acc.getLast? with
  | some (.n _) => .n
  | some .dn => .d
  | _ => .o
def dW : Kd → Blk → Int
  | _, .dn => 1
  | .n, .up => -1
  | _, .up => 1
  | .o, .n _ => 2
  | _, .n _ => 0
def nk : Kd → Blk → Kd
  | _, .dn => .d
  | _, .up => .o
  | .d, .n _ => .d
  | _, .n _ => .n
theorem kd_app (acc : Ln) (b : Blk) : kd (acc ++ [b]) = match b with | .n _ => .n | .dn => .d | .up => .o := by
  unfold kd
  rw [List.getLast?_concat]
  cases b <;> rfl
theorem step_ok (acc : Ln) (b : Blk) : (wt (pstep acc b) : Int) = wt acc + dW (kd acc) b ∧ kd (pstep acc b) = nk (kd acc) b := by
  have w1 : ∀ b, (wt (acc ++ [b]) : Int) = wt acc + wb b := fun b => by rw [wt_app]; simp [wt_cons, wt_nil]
  cases h : acc.getLast? with
  | none =>
    have k : kd acc = .o := by unfold kd; rw [h]
    rw [k]
    cases b with
    | n m =>
      have e : pstep acc (.n m) = acc ++ [.n m] := by unfold pstep; rw [h]
      rw [e, w1, kd_app]
      exact ⟨rfl, rfl⟩
    | up =>
      have e : pstep acc .up = acc ++ [.up] := by unfold pstep; rw [h]
      rw [e, w1, kd_app]
      exact ⟨rfl, rfl⟩
    | dn =>
      have e : pstep acc .dn = acc ++ [.dn] := by unfold pstep; rfl
      rw [e, w1, kd_app]
      exact ⟨rfl, rfl⟩
  | some c =>
    have hd := wt_dl h
    have w2 : ∀ b, (wt (acc.dropLast ++ [b]) : Int) = wt acc - wb c + wb b := fun b => by
      rw [wt_app]
      simp [wt_cons, wt_nil]
      omega
    cases c with
    | n j =>
      have k : kd acc = .n := by unfold kd; rw [h]
      rw [k]
      have wc : wb (.n j) = 2 := rfl
      cases b with
      | n m =>
        have e : pstep acc (.n m) = acc.dropLast ++ [.n (j + m)] := by unfold pstep; rw [h]
        rw [e, w2, kd_app, wc]
        exact ⟨by show (wt acc : Int) - 2 + 2 = wt acc + 0; omega, rfl⟩
      | up =>
        have e : pstep acc .up = acc.dropLast ++ [.up] := by unfold pstep; rw [h]
        rw [e, w2, kd_app, wc]
        exact ⟨by show (wt acc : Int) - 2 + 1 = wt acc + -1; omega, rfl⟩
      | dn =>
        have e : pstep acc .dn = acc ++ [.dn] := by unfold pstep; rfl
        rw [e, w1, kd_app]
        exact ⟨rfl, rfl⟩
    | up =>
      have k : kd acc = .o := by unfold kd; rw [h]
      rw [k]
      cases b with
      | n m =>
        have e : pstep acc (.n m) = acc ++ [.n m] := by unfold pstep; rw [h]
        rw [e, w1, kd_app]
        exact ⟨rfl, rfl⟩
      | up =>
        have e : pstep acc .up = acc ++ [.up] := by unfold pstep; rw [h]
        rw [e, w1, kd_app]
        exact ⟨rfl, rfl⟩
      | dn =>
        have e : pstep acc .dn = acc ++ [.dn] := by unfold pstep; rfl
        rw [e, w1, kd_app]
        exact ⟨rfl, rfl⟩
    | dn =>
      have k : kd acc = .d := by unfold kd; rw [h]
      rw [k]
      cases b with
      | n m =>
        have e : pstep acc (.n m) = acc := by unfold pstep; rw [h]
        rw [e, k]
        exact ⟨by show (wt acc : Int) = wt acc + 0; omega, rfl⟩
      | up =>
        have e : pstep acc .up = acc ++ [.up] := by unfold pstep; rw [h]
        rw [e, w1, kd_app]
        exact ⟨rfl, rfl⟩
      | dn =>
        have e : pstep acc .dn = acc ++ [.dn] := by unfold pstep; rfl
        rw [e, w1, kd_app]
        exact ⟨rfl, rfl⟩
theorem wt_kd (acc : Ln) : (kd acc = .n → 2 ≤ wt acc) ∧ (kd acc = .d → 1 ≤ wt acc) := by
  cases h : acc.getLast? with
  | none =>
    have k : kd acc = .o := by unfold kd; rw [h]
    rw [k]
    exact ⟨nofun, nofun⟩
  | some c =>
    have hd := wt_dl h
    cases c with
    | n j =>
      have e : wb (.n j) = 2 := rfl
      exact ⟨fun _ => by omega, fun _ => by omega⟩
    | up =>
      have e : wb .up = 1 := rfl
      have k : kd acc = .o := by unfold kd; rw [h]
      rw [k]
      exact ⟨nofun, nofun⟩
    | dn =>
      have e : wb .dn = 1 := rfl
      have k : kd acc = .d := by unfold kd; rw [h]
      rw [k]
      exact ⟨nofun, fun _ => by omega⟩
def gW : Kd → Ln → Int
  | _, [] => 0
  | k, b :: y => dW k b + gW (nk k b) y
theorem fold_gW : ∀ (y acc : Ln), (wt (y.foldl pstep acc) : Int) = wt acc + gW (kd acc) y
  | [], acc => by simp [gW]
  | b :: y, acc => by
    have h := step_ok acc b
    rw [List.foldl_cons, fold_gW y, h.1, h.2]
    simp only [gW]
    omega
def Wm (x : Ln) : Nat := wt (mrg x)
theorem Wm_gW (x : Ln) : (Wm x : Int) = gW .o x := by
  unfold Wm mrg
  rw [fold_gW]
  have : kd [] = .o := rfl
  rw [this, wt_nil]
  omega
theorem gW_low : ∀ y : Ln, 0 ≤ gW .o y ∧ 0 ≤ gW .d y ∧ -1 ≤ gW .n y
  | [] => ⟨Int.le_refl _, Int.le_refl _, by simp [gW]⟩
  | b :: y => by
    obtain ⟨h1, h2, h3⟩ := gW_low y
    cases b with
    | n k => exact ⟨by show 0 ≤ 2 + gW .n y; omega, by show 0 ≤ 0 + gW .d y; omega, by show -1 ≤ 0 + gW .n y; omega⟩
    | up => exact ⟨by show 0 ≤ 1 + gW .o y; omega, by show 0 ≤ 1 + gW .o y; omega, by show -1 ≤ -1 + gW .o y; omega⟩
    | dn => exact ⟨by show 0 ≤ 1 + gW .d y; omega, by show 0 ≤ 1 + gW .d y; omega, by show -1 ≤ 1 + gW .d y; omega⟩
theorem gW_nd : ∀ y : Ln, gW .n y ≤ gW .d y
  | [] => Int.le_refl _
  | b :: y => by
    have h := gW_nd y
    cases b with
    | n k => show 0 + gW .n y ≤ 0 + gW .d y; omega
    | up => show -1 + gW .o y ≤ 1 + gW .o y; omega
    | dn => show 1 + gW .d y ≤ 1 + gW .d y; omega
theorem gW_od (y : Ln) : gW .o y ≤ gW .d y + 2 := by
  cases y with
  | nil => simp [gW]
  | cons b y =>
    have h := gW_nd y
    cases b with
    | n k => show 2 + gW .n y ≤ 0 + gW .d y + 2; omega
    | up => show 1 + gW .o y ≤ 1 + gW .o y + 2; omega
    | dn => show 1 + gW .d y ≤ 1 + gW .d y + 2; omega
theorem gW_on (y : Ln) : gW .o y ≤ gW .n y + 2 := by
  cases y with
  | nil => simp [gW]
  | cons b y =>
    cases b with
    | n k => show 2 + gW .n y ≤ 0 + gW .n y + 2; omega
    | up => show 1 + gW .o y ≤ -1 + gW .o y + 2; omega
    | dn => show 1 + gW .d y ≤ 1 + gW .d y + 2; omega
theorem gW_app : ∀ (x y : Ln) (acc : Ln), gW (kd acc) (x ++ y) = gW (kd acc) x + gW (kd (x.foldl pstep acc)) y
  | [], y, acc => by simp [gW]
  | b :: x, y, acc => by
    have h := gW_app x y (pstep acc b)
    have e := (step_ok acc b).2
    rw [List.cons_append, List.foldl_cons]
    simp only [gW]
    rw [← e, h]
    omega
/-- the parts of a line weigh at most one more -/
theorem Wm_part {x : Ln} {p : NP} (h : Plc x p) : Wm (lf x p.1 p.2) ≤ Wm x + 1 ∧ Wm (rg x p.1 p.2) ≤ Wm x + 1 := by
  obtain ⟨b, hb, _⟩ := h
  obtain ⟨i, j⟩ := p
  dsimp only at hb ⊢
  have sp := split_at hb
  rw [lf_at hb, rg_at hb]
  generalize x.take i = pre at sp
  generalize x.drop (i + 1) = y at sp
  have hx := Wm_gW x
  rw [sp] at hx
  rw [sp]
  have e0 : kd ([] : Ln) = .o := rfl
  have a1 := gW_app pre (b :: y) []
  rw [e0] at a1
  have hp := fold_gW pre []
  rw [e0, wt_nil] at hp
  have wk := wt_kd (pre.foldl pstep [])
  have hst := step_ok (pre.foldl pstep []) b
  have wk2 := wt_kd (pstep (pre.foldl pstep []) b)
  generalize hacc : pre.foldl pstep [] = acc at a1 hp wk hst wk2
  have y1 := gW_low y
  have y2 := gW_nd y
  have y3 := gW_od y
  have y4 := gW_on y
  rw [a1] at hx
  have hx : (Wm (pre ++ b :: y) : Int) = gW .o pre + (dW (kd acc) b + gW (nk (kd acc) b) y) := hx
  have hl : ∀ z : Ln, (Wm (pre ++ z) : Int) = gW .o pre + gW (kd acc) z := fun z => by
    have a := gW_app pre z []
    rw [e0, hacc] at a
    rw [Wm_gW, a]
  have hf : ∀ m : Nat, (M74.fin m = [] ∨ M74.fin m = [.n m]) := fun m => by unfold M74.fin; split <;> simp
  have hr : ∀ z : Ln, (Wm z : Int) = gW .o z := Wm_gW
  generalize kd acc = k at hx hl wk hst wk2
  refine ⟨?_, ?_⟩
  · have g := hl (bl b j)
    cases b with
    | n m =>
      rcases hf j with e | e
      · have g : (Wm (pre ++ bl (.n m) j) : Int) = gW .o pre + gW k (M74.fin j) := g
        rw [e] at g
        cases k <;> simp only [gW, dW, nk] at g hx <;> omega
      · have g : (Wm (pre ++ bl (.n m) j) : Int) = gW .o pre + gW k (M74.fin j) := g
        rw [e] at g
        cases k <;> simp only [gW, dW, nk] at g hx <;> omega
    | up =>
      have g : (Wm (pre ++ bl .up j) : Int) = gW .o pre + gW k (M74.fin j) := g
      rcases hf j with e | e
      · rw [e] at g
        cases k <;> simp only [gW, dW, nk] at g hx <;> omega
      · rw [e] at g
        cases k <;> simp only [gW, dW, nk] at g hx <;> omega
    | dn =>
      have g : (Wm (pre ++ bl .dn j) : Int) = gW .o pre + gW k [.dn] := g
      cases k <;> simp only [gW, dW, nk] at g hx <;> omega
  · have g := hr (br b j ++ y)
    cases b with
    | n m =>
      have g : (Wm (br (.n m) j ++ y) : Int) = gW .o (M74.fin (m - 1 - j) ++ y) := g
      rcases hf (m - 1 - j) with e | e
      · rw [e] at g
        cases k <;> simp only [gW, dW, nk, List.nil_append, List.cons_append] at g hx hst wk2 <;> first | (have := wk2.1 hst.2; omega) | (have := wk2.2 hst.2; omega)
      · rw [e] at g
        cases k <;> simp only [gW, dW, nk, List.nil_append, List.cons_append] at g hx hst wk2 <;> first | (have := wk2.1 hst.2; omega) | (have := wk2.2 hst.2; omega)
    | up =>
      have g : (Wm (br .up j ++ y) : Int) = gW .o ([.up] ++ y) := g
      cases k <;> simp only [gW, dW, nk, List.nil_append, List.cons_append] at g hx hst wk2 <;> first | omega | (have := wk.1 rfl; omega) | (have := wk.2 rfl; omega)
    | dn =>
      have g : (Wm (br .dn j ++ y) : Int) = gW .o (M74.fin j ++ y) := g
      rcases hf j with e | e
      · rw [e] at g
        cases k <;> simp only [gW, dW, nk, List.nil_append, List.cons_append] at g hx hst wk2 <;> first | omega | (have := wk2.2 hst.2; omega)
      · rw [e] at g
        cases k <;> simp only [gW, dW, nk, List.nil_append, List.cons_append] at g hx hst wk2 <;> first | omega | (have := wk2.2 hst.2; omega)
end K74
/-! what the calls of the law need: bounds -/
namespace K74
open PySem PySem.Spec PyProof.Rows L2 Ly M74
theorem wt_formW (m : Nat) (a : Ln) : wt (form m a) ≤ Wm a := by
  unfold form Wm
  split
  · exact wt_filter _ _
  · rw [wt_cut]
    exact Nat.le_refl _
/-- a line as the law has it -/
structure Gd (m : Nat) (x : Ln) : Prop where
  pos : Pos x
  len : x.length ≤ 6
  num : ∀ k, Blk.n k ∈ x → k ≤ 1000
  w : Wm x ≤ m
theorem Gd.mono {m m' : Nat} {x : Ln} (h : Gd m x) (l : m ≤ m') : Gd m' x := ⟨h.pos, h.len, h.num, Nat.le_trans h.w l⟩
theorem Gd.ok {m : Nat} {x : Ln} (h : Gd m x) : okLn x := ⟨by have := h.len; omega, fun k hk => ⟨h.pos k hk, h.num k hk⟩⟩
theorem num_fin {k m : Nat} (h : Blk.n k ∈ M74.fin m) : k = m := by
  unfold M74.fin at h
  split at h
  · cases h
  · simpa using h
theorem num_bl {b : Blk} {j k : Nat} (h : Blk.n k ∈ bl b j) : k = j := by
  cases b with
  | n m => exact num_fin h
  | up => exact num_fin h
  | dn => exact absurd h (by simp [bl])
theorem num_br {b : Blk} {j k : Nat} (h : Blk.n k ∈ br b j) : k ≤ j ∨ ∃ m, b = .n m ∧ k ≤ m := by
  cases b with
  | n m =>
    have := num_fin h
    exact .inr ⟨m, rfl, by omega⟩
  | up => exact absurd h (by simp [br])
  | dn => exact .inl (Nat.le_of_eq (num_fin h))
theorem Gd.parts {m : Nat} {x : Ln} {p : NP} (h : Gd m x) (hp : Plc x p) (hj : p.2 ≤ 1000) : Gd (m + 1) (lf x p.1 p.2) ∧ Gd (m + 1) (rg x p.1 p.2) := by
  have hw := Wm_part hp
  have hwm := h.w
  obtain ⟨b, hb, _⟩ := hp
  have hbm := List.mem_of_getElem? hb
  refine ⟨⟨pos_lf h.pos _ _, Nat.le_trans (len_lf hb _) h.len, fun k hk => ?_, by omega⟩, ⟨pos_rg h.pos _ _, Nat.le_trans (len_rg hb _) h.len, fun k hk => ?_, by omega⟩⟩
  · rw [lf_at hb] at hk
    rcases List.mem_append.mp hk with z | z
    · exact h.num k (List.mem_of_mem_take z)
    · have := num_bl z
      omega
  · rw [rg_at hb] at hk
    rcases List.mem_append.mp hk with z | z
    · rcases num_br z with q | ⟨m', rfl, q⟩
      · omega
      · have := h.num m' hbm
        omega
    · exact h.num k (List.mem_of_mem_drop z)
theorem Gd.part {m : Nat} {x : Ln} {p : NP} (h : Gd m x) (hp : Plc x p) (hj : p.2 ≤ 1000) (ah : Bool) : Gd (m + 1) (partOf x p.1 p.2 ah) := by
  unfold partOf
  cases ah with
  | true => exact (h.parts hp hj).2
  | false => exact (h.parts hp hj).1
theorem Gd.fm {m : Nat} {x : Ln} (h : Gd m x) (r : Nat) (hr : r ≤ 5) : Fm m 8 (form (2 ^ r - 1) x) := by
  have h2 : 2 ^ r ≤ 2 ^ 5 := Nat.pow_le_pow_right (by decide) hr
  have e5 : 2 ^ 5 = 32 := rfl
  exact ⟨Nat.le_trans (len_form _ _) (by have := h.len; omega), Nat.le_trans (wt_formW _ _) h.w, fun k hk => by have := num_form hk; omega⟩
theorem Gd.fmN {m : Nat} {x : Ln} (h : Gd m x) (r : Nat) (hr : r ≤ 5) : Fm m 8 (nrm r x) := by
  by_cases z : r = 0
  · subst z
    rw [nrm_zero]
    exact ⟨by simp, by simp [wt_nil], fun k hk => absurd hk (by simp)⟩
  · rw [nrm_form (by omega)]
    exact h.fm r hr
theorem okB_at {n m r : Nat} (hn : n ≤ 194) (hr : r ≤ 3) (hm : m + r ≤ 10) : okB n m 8 r := by
  have key : okB 194 (10 - r) 8 r := by
    rcases (show r = 0 ∨ r = 1 ∨ r = 2 ∨ r = 3 by omega) with rfl | rfl | rfl | rfl
    · show 194 ≤ 16000000; omega
    · refine ⟨by omega, by decide, ?_⟩; show _ ≤ 16000000; decide
    · refine ⟨by omega, by decide, by decide, by decide, ?_⟩; show _ ≤ 16000000; decide
    · refine ⟨by omega, by decide, by decide, by decide, by decide, by decide, ?_⟩; show _ ≤ 16000000; decide
  exact okB_mono hn (by omega) key
theorem okB_two {m r : Nat} (hr : r ≤ 4) (hm : m + r ≤ 10) : okB 2 m 8 r := by
  by_cases h : r ≤ 3
  · exact okB_at (by decide) h hm
  · have : r = 4 := by omega
    subst this
    have key : okB 2 6 8 4 := by
      refine ⟨by omega, by decide, by decide, by decide, by decide, by decide, by decide, by decide, ?_⟩
      show _ ≤ 16000000
      decide
    exact okB_mono (Nat.le_refl _) (by omega) key
theorem okL_at {n m r : Nat} (hn : n ≤ 194) (hr : r ≤ 3) (hm : m + r ≤ 10) : okL n m r := by
  have key : okL 194 (10 - r) r := by
    rcases (show r = 0 ∨ r = 1 ∨ r = 2 ∨ r = 3 by omega) with rfl | rfl | rfl | rfl
    · show 194 ≤ 16000000; omega
    · refine ⟨by omega, by decide, ?_⟩; show _ ≤ 16000000; decide
    · refine ⟨by omega, by decide, by decide, by decide, ?_⟩; show _ ≤ 16000000; decide
    · refine ⟨by omega, by decide, by decide, by decide, by decide, by decide, ?_⟩; show _ ≤ 16000000; decide
  exact okL_mono hn (by omega) key
theorem okL_two {m r : Nat} (hr : r ≤ 4) (hm : m + r ≤ 10) : okL 2 m r := by
  by_cases h : r ≤ 3
  · exact okL_at (by decide) h hm
  · have : r = 4 := by omega
    subst this
    have key : okL 2 6 4 := by
      refine ⟨by omega, by decide, by decide, by decide, by decide, by decide, by decide, by decide, ?_⟩
      show _ ≤ 16000000
      decide
    exact okL_mono (Nat.le_refl _) (by omega) key
theorem preBA_gd {m r : Nat} {x y : Ln} (hx : Gd m x) (hy : Gd m y) (hr : r ≤ 4) (hm : m + r ≤ 10) : preBA x y r :=
  ⟨by omega, m, 8, by decide, ⟨hx.pos, by have := hx.len; omega, hx.num, (hx.fm r (by omega)).2.1, (hx.fm r (by omega)).1⟩, ⟨hy.pos, by have := hy.len; omega, hy.num, (hy.fm r (by omega)).2.1, (hy.fm r (by omega)).1⟩, okB_two hr hm⟩
theorem wt_len : ∀ f : Ln, wt f ≤ 2 * f.length
  | [] => by simp [wt_nil]
  | b :: f => by
    have := wt_len f
    have := wb_pos b
    rw [wt_cons, List.length_cons]
    omega
theorem preFN_gd {m r : Nat} {own other : Ln} {p : NP} (ho : Gd m own) (ht : Gd m other) (hr : r ≤ 3) (hm : m + r ≤ 9) (hp : Plc own p) (hj : p.2 ≤ 1000) : preFN (anF r own p other) r := by
  have h2 : 2 ^ r ≤ 2 ^ 3 := Nat.pow_le_pow_right (by decide) hr
  have e3 : 2 ^ 3 = 8 := rfl
  have hpl : (plc (2 ^ r - 1) other).length ≤ 96 := by
    have a1 := (plc_len r other).1
    have a2 := wt_len other
    have a3 := ht.len
    have a4 : 2 ^ r * wt other ≤ 8 * 12 := Nat.mul_le_mul (by omega) (by omega)
    omega
  have hlen : (anF r own p other).length ≤ 194 := by
    have h := flat_len (fun pr : Ln × Ln => [pr.1, pr.2]) 2 (((plc (2 ^ r - 1) other).map fun q => hv (2 ^ r - 1) other q.1 q.2) ++ [hv (2 ^ r - 1) own p.1 p.2]) (fun _ _ => Nat.le_refl _)
    rw [List.length_append, List.length_map] at h
    unfold anF
    simp only [List.length_cons, List.length_nil] at h
    omega
  refine ⟨by omega, by omega, m + 1, 8, by decide, fun f hf => ?_, okB_at (Nat.le_trans (ded_len _) hlen) hr (by omega)⟩
  unfold anF at hf
  obtain ⟨pr, hpr, hf⟩ := List.mem_flatMap.mp hf
  have hf : f = pr.1 ∨ f = pr.2 := by simpa using hf
  have two : Fm (m + 1) 8 pr.1 ∧ Fm (m + 1) 8 pr.2 := by
    rcases List.mem_append.mp hpr with z | z
    · obtain ⟨q, hq, rfl⟩ := List.mem_map.mp z
      obtain ⟨b, hb, hjq⟩ := mem_plc.mp hq
      have hpq : Plc other q := plc_plc hq
      have hq2 : q.2 ≤ 1000 := by
        cases b with
        | n k =>
          have := List.mem_range.mp (List.mem_filter.mp hjq).1
          have := ht.num k (List.mem_of_getElem? hb)
          omega
        | up => have := List.mem_range.mp hjq; omega
        | dn => have := List.mem_range.mp hjq; omega
      have g := ht.parts hpq hq2
      exact ⟨g.1.fm r (by omega), g.2.fm r (by omega)⟩
    · have z : pr = hv (2 ^ r - 1) own p.1 p.2 := by simpa using z
      subst z
      have g := ho.parts hp hj
      exact ⟨g.1.fm r (by omega), g.2.fm r (by omega)⟩
  rcases hf with rfl | rfl
  · exact two.1
  · exact two.2
theorem spt_num {most : Nat} {f : Ln} {q : NP} (hm : most ≤ 1000) (hn : ∀ k, Blk.n k ∈ f → k ≤ 1000) (h : q ∈ spt most f) : q.2 ≤ 1000 := by
  obtain ⟨y, hy, hq⟩ := List.mem_flatMap.mp h
  obtain ⟨j, hj, rfl⟩ := List.mem_map.mp hq
  have hy := mem_idx.mp hy
  cases hb : y.2 with
  | n k =>
    rw [hb] at hj hy
    have := List.mem_range.mp (List.mem_filter.mp hj).1
    have := hn k (List.mem_of_getElem? hy)
    show j ≤ 1000
    omega
  | up =>
    rw [hb] at hj
    have hj : j ∈ List.range (most + 1) := hj
    have := List.mem_range.mp hj
    show j ≤ 1000
    omega
  | dn =>
    rw [hb] at hj
    have hj : j ∈ List.range (most + 1) := hj
    have := List.mem_range.mp hj
    show j ≤ 1000
    omega
theorem preFT_an {m r : Nat} {own other : Ln} {p : NP} (ho : Gd m own) (ht : Gd m other) (hr : r ≤ 3) (hm : m + r ≤ 9) (hp : Plc own p) (hj : p.2 ≤ 1000) : preFT (anLns r own p other) r := by
  have h2 : 2 ^ r ≤ 2 ^ 3 := Nat.pow_le_pow_right (by decide) hr
  have e3 : 2 ^ 3 = 8 := rfl
  have hsl : (spt (2 ^ r - 1) other).length ≤ 96 := by
    have a1 := spt_wt r other
    have a2 := wt_len other
    have a3 := ht.len
    have a4 : 2 ^ r * wt other ≤ 8 * 12 := Nat.mul_le_mul (by omega) (by omega)
    omega
  have hlen : (anLns r own p other).length ≤ 194 := by
    have h := flat_len (fun q : NP => [lf other q.1 q.2, rg other q.1 q.2]) 2 (spt (2 ^ r - 1) other) (fun _ _ => Nat.le_refl _)
    unfold anLns
    rw [List.length_append]
    simp only [List.length_cons, List.length_nil]
    omega
  have hall : ∀ f ∈ anLns r own p other, Gd (m + 1) f := fun f hf => by
    unfold anLns at hf
    rcases List.mem_append.mp hf with z | z
    · have g := ho.parts hp hj
      have z : f = lf own p.1 p.2 ∨ f = rg own p.1 p.2 := by simpa using z
      rcases z with rfl | rfl
      · exact g.1
      · exact g.2
    · obtain ⟨q, hq, z⟩ := List.mem_flatMap.mp z
      have g := ht.parts (mem_spt hq) (spt_num (by omega) ht.num hq)
      have z : f = lf other q.1 q.2 ∨ f = rg other q.1 q.2 := by simpa using z
      rcases z with rfl | rfl
      · exact g.1
      · exact g.2
  exact ⟨by omega, by omega, fun f hf => by have := (hall f hf).len; omega, m + 1, 8, by decide, fun f hf => (hall f hf).fmN r (by omega), okL_at hlen hr (by omega)⟩
theorem preFT_two {m r : Nat} {x y : Ln} (hx : Gd m x) (hy : Gd m y) (hr : r ≤ 4) (hm : m + r ≤ 10) : preFT [x, y] r := by
  have hall : ∀ f ∈ [x, y], Gd m f := fun f hf => by
    have : f = x ∨ f = y := by simpa using hf
    rcases this with rfl | rfl
    · exact hx
    · exact hy
  exact ⟨by omega, by simp, fun f hf => by have := (hall f hf).len; omega, m, 8, by decide, fun f hf => (hall f hf).fmN r (by omega), okL_two hr hm⟩
theorem preLAn_gd {m r : Nat} {own other : Ln} {p : NP} (ho : Gd m own) (ht : Gd m other) (hr : r ≤ 3) (hm : m + r ≤ 9) (hp : Plc own p) (hj : p.2 ≤ 1000) : preLAn ⟨own, other, r, p⟩ :=
  ⟨by show r ≤ 4; omega, by have := ho.len; show own.length ≤ 50; omega, by have := ht.len; show other.length ≤ 50; omega, ht.num, ho.pos, ht.pos, hp, preFT_an ho ht hr hm hp hj⟩
theorem preAn_gd {m : Nat} {a : LAx} (hx : Gd m a.x) (hy : Gd m a.y) (hr : a.r.natAbs ≤ 16000000) (hr4 : 1 ≤ a.r → a.r ≤ 5 → a.r ≤ 4 ∧ (m : Int) + a.r ≤ 10) (hs : a.s.natAbs ≤ 16000000) (hi : a.i.natAbs ≤ 16000000) (hj : a.j.natAbs ≤ 16000000) (hj2 : hasB a.own a.i a.j = true → a.j ≤ 1000) : preAn a where
  r := hr
  s := hs
  i := hi
  j := hj
  x := by have := hx.len; omega
  y := by have := hy.len; omega
  nx := hx.num
  ny := hy.num
  px := hx.pos
  py := hy.pos
  ba := fun h1 h5 => by
    obtain ⟨h4, hm⟩ := hr4 h1 h5
    exact preBA_gd hx hy (by omega) (by omega)
  fn := fun h1 h5 s0 s1 hb => by
    obtain ⟨h4, hm⟩ := hr4 h1 h5
    obtain ⟨hi0, hj0, hp⟩ := hasB_plc hb
    have hj3 := hj2 hb
    have hown : Gd m a.own := by unfold LAx.own; split <;> assumption
    have hoth : Gd m a.other := by unfold LAx.other; split <;> assumption
    exact preFN_gd hown hoth (by omega) (by omega) hp (by show a.j.toNat ≤ 1000; omega)
/-! ### what is drawn -/
theorem Wm_app (acc p : Ln) : (Wm (acc ++ p) : Int) = Wm acc + gW (kd (mrg acc)) p := by
  unfold Wm mrg
  rw [List.foldl_append, fold_gW]
theorem gd_nil : Gd 0 [] := ⟨Pos.nil, by simp, fun k hk => absurd hk (by simp), by decide⟩
structure Dr (n m : Nat) (x : Ln) : Prop where
  pos : Pos x
  len : x.length ≤ n
  num : ∀ k, Blk.n k ∈ x → k ≤ 1000
  w : Wm x ≤ m
theorem Dr.app {n m n' m' : Nat} {x p : Ln} (h : Dr n m x) (hp : ∀ k, Blk.n k ∈ p → 1 ≤ k ∧ k ≤ 1000) (hl : p.length ≤ n') (hw : ∀ k, gW k p ≤ m') : Dr (n + n') (m + m') (x ++ p) := by
  refine ⟨h.pos.app fun k hk => (hp k hk).1, by rw [List.length_append]; have := h.len; omega, fun k hk => ?_, ?_⟩
  · rcases List.mem_append.mp hk with z | z
    · exact h.num k z
    · exact (hp k z).2
  · have h1 := Wm_app x p
    have h2 := hw (kd (mrg x))
    have h3 := h.w
    omega
theorem dr_nil : Dr 0 0 [] := ⟨Pos.nil, by simp, fun k hk => absurd hk (by simp), by decide⟩
theorem Dr.gd {n m : Nat} {x : Ln} (h : Dr n m x) (hn : n ≤ 6) : Gd m x := ⟨h.pos, Nat.le_trans h.len hn, h.num, h.w⟩
theorem Dr.mono {n m n' m' : Nat} {x : Ln} (h : Dr n m x) (hn : n ≤ n') (hm : m ≤ m') : Dr n' m' x := ⟨h.pos, Nat.le_trans h.len hn, h.num, Nat.le_trans h.w hm⟩
theorem gW_one (k : Kd) (b : Blk) : gW k [b] ≤ 2 := by
  cases k <;> cases b <;> simp only [gW, dW] <;> omega
theorem dStep_dr {most n m : Nat} {a : Ln × Ste} (hm : 2 ≤ most) (hm2 : most ≤ 1000) (h : Dr n m a.1) : Dr (n + 1) (m + 2) (dStep most a).1 := by
  unfold dStep
  split
  · refine h.app (fun k hk => ?_) (Nat.le_refl _) (fun k => gW_one k _)
    have hk : Blk.n k = if (a.2.take 9).1 % 2 = 0 then Blk.up else Blk.dn := by simpa using hk
    split at hk <;> cases hk
  · refine h.app (fun k hk => ?_) (Nat.le_refl _) (fun k => gW_one k _)
    have hk : Blk.n k = .n (1 + ((a.2.take 9).2.take most).1) := by simpa using hk
    injection hk with hk
    have := take_lt (a.2.take 9).2 (many := most) (by omega)
    omega
theorem dIter_dr {most : Nat} {s : Ste} (hm : 2 ≤ most) (hm2 : most ≤ 1000) : ∀ n, Dr n (2 * n) (dIter most ([], s) n).1
  | 0 => dr_nil
  | n + 1 => by
    have ih := dIter_dr (s := s) hm hm2 n
    have h := dStep_dr (a := dIter most ([], s) n) hm hm2 ih
    exact h.mono (Nat.le_refl _) (by omega)
theorem drawBs_dr {most : Nat} {s : Ste} (hm : 2 ≤ most) (hm2 : most ≤ 1000) : Dr 3 6 (drawBs most s).1 := by
  have h4 := take_lt s (many := 4) (by decide)
  exact (dIter_dr hm hm2 _).mono (by omega) (by omega)
theorem lkStep_dr {most n m : Nat} {a : Ln × Ste} {b : Blk} (hm : most ≤ 15) (hb : ∀ k, b = .n k → 1 ≤ k ∧ k ≤ 1000) (h : Dr n m a.1) : Dr (n + 2) (m + 2) (lkStep most a b).1 := by
  have t9 := take_lt (a.2.take 6).2 (many := 9) (by decide)
  have g2 : ∀ (k : Kd) (i j : Nat), gW k [.n i, .n j] ≤ 2 := fun k i j => by cases k <;> simp only [gW, dW, nk] <;> omega
  have g3 : ∀ (k : Kd), gW k [.up, .dn] ≤ 2 := fun k => by cases k <;> simp only [gW, dW, nk] <;> omega
  have g4 : ∀ (k : Kd) (i : Nat), gW k [.n i, .up] ≤ 2 := fun k i => by cases k <;> simp only [gW, dW, nk] <;> omega
  have g5 : ∀ (k : Kd) (i : Nat), gW k [.dn, .n i] ≤ 2 := fun k i => by cases k <;> simp only [gW, dW, nk] <;> omega
  have one : ∀ c : Blk, (∀ k, c = .n k → 1 ≤ k ∧ k ≤ 1000) → Dr (n + 2) (m + 2) (a.1 ++ [c]) := fun c hc => (h.app (fun k hk => hc k (List.mem_singleton.mp hk).symm) (n' := 1) (m' := 2) (Nat.le_refl _) (fun k => gW_one k _)).mono (by omega) (Nat.le_refl _)
  cases b with
  | up =>
    simp only [lkStep]
    split
    · refine h.app (fun k hk => ?_) (Nat.le_refl _) (fun k => g4 k _)
      have hk : k = 1 + ((a.2.take 6).2.take 9).1 := by simpa using hk
      omega
    · exact one _ (fun k e => by cases e)
  | dn =>
    simp only [lkStep]
    split
    · refine h.app (fun k hk => ?_) (Nat.le_refl _) (fun k => g5 k _)
      have hk : k = 1 + ((a.2.take 6).2.take 9).1 := by simpa using hk
      omega
    · exact one _ (fun k e => by cases e)
  | n i =>
    obtain ⟨hi1, hi2⟩ := hb i rfl
    simp only [lkStep]
    split
    · exact one _ (fun k e => by cases e; exact ⟨hi1, hi2⟩)
    · split
      · exact h.app (fun k hk => absurd hk (by simp)) (Nat.le_refl _) g3
      · split
        · exact one _ (fun k e => by injection e with e; omega)
        · split
          · rename_i hh
            refine h.app (fun k hk => ?_) (Nat.le_refl _) (fun k => g2 k _ _)
            have hk : k = 1 ∨ k = i - 1 := by simpa using hk
            omega
          · exact one _ (fun k e => by injection e with e; omega)
theorem lkBs_dr {most : Nat} {bs : Ln} {s : Ste} (hm : most ≤ 15) (hb : ∀ k, Blk.n k ∈ bs → 1 ≤ k ∧ k ≤ 1000) : Dr (2 * bs.length) (2 * bs.length) (lkBs most bs s).1 := by
  have key : ∀ (bs : Ln) (n m : Nat) (a : Ln × Ste), (∀ k, Blk.n k ∈ bs → 1 ≤ k ∧ k ≤ 1000) → Dr n m a.1 → Dr (n + 2 * bs.length) (m + 2 * bs.length) (bs.foldl (lkStep most) a).1 := by
    intro bs
    induction bs with
    | nil => intro n m a _ h; exact h
    | cons b bs ih =>
      intro n m a hb h
      have h1 := lkStep_dr (b := b) hm (fun k e => hb k (by rw [e]; simp)) h
      have h2 := ih _ _ _ (fun k hk => hb k (List.mem_cons_of_mem _ hk)) h1
      exact h2.mono (by rw [List.length_cons]; omega) (by rw [List.length_cons]; omega)
  have := key bs 0 0 ([], s) hb dr_nil
  exact this.mono (by omega) (by omega)
/-! ### the play -/
theorem E_nil {r : Nat} {y : Ln} (h : E (r + 1) [] y) (hp : Pos y) : y = [] := by
  cases y with
  | nil => rfl
  | cons b y =>
    have hpl : Plc (b :: y) (0, 0) := ⟨b, rfl, by
      cases b with
      | n k => exact hp k (by simp)
      | up => trivial
      | dn => trivial⟩
    obtain ⟨p, ⟨c, hc, _⟩, _⟩ := (E_plc.mp h).2 _ hpl
    simp at hc
theorem drawPl_plc {bs : Ln} {s : Ste} (hne : bs ≠ []) (hp : Pos bs) (hn : ∀ k, Blk.n k ∈ bs → k ≤ 1000) : Plc bs (drawPl bs s).1 ∧ (drawPl bs s).1.2 ≤ 1000 := by
  have hpos := List.length_pos_iff.mpr hne
  have hat := take_lt s hpos
  obtain ⟨b, hb⟩ : ∃ b, bs[(s.take bs.length).1]? = some b := ⟨_, List.getElem?_eq_getElem hat⟩
  have hbm := List.mem_of_getElem? hb
  cases b with
  | n k =>
    have h0 := hp k hbm
    have h1 := hn k hbm
    have e : (drawPl bs s).1 = ((s.take bs.length).1, (((s.take bs.length).2.take 16).2.take k).1) := by
      unfold drawPl
      simp only [hb]
    have h2 := take_lt ((s.take bs.length).2.take 16).2 h0
    rw [e]
    exact ⟨⟨_, hb, h2⟩, by show _ ≤ 1000; omega⟩
  | up =>
    have e : (drawPl bs s).1 = ((s.take bs.length).1, (((s.take bs.length).2.take 16).2.take (if ((s.take bs.length).2.take 16).1 = 9 then 1001 else 12)).1) := by
      unfold drawPl
      simp only [hb]
    have h2 := take_lt ((s.take bs.length).2.take 16).2 (many := if ((s.take bs.length).2.take 16).1 = 9 then 1001 else 12) (by split <;> omega)
    rw [e]
    refine ⟨⟨_, hb, trivial⟩, ?_⟩
    show _ ≤ 1000
    split at h2 <;> split <;> omega
  | dn =>
    have e : (drawPl bs s).1 = ((s.take bs.length).1, (((s.take bs.length).2.take 16).2.take (if ((s.take bs.length).2.take 16).1 = 9 then 1001 else 12)).1) := by
      unfold drawPl
      simp only [hb]
    have h2 := take_lt ((s.take bs.length).2.take 16).2 (many := if ((s.take bs.length).2.take 16).1 = 9 then 1001 else 12) (by split <;> omega)
    rw [e]
    refine ⟨⟨_, hb, trivial⟩, ?_⟩
    show _ ≤ 1000
    split at h2 <;> split <;> omega
theorem hasB_of {f : Ln} {p : NP} (h : Plc f p) : hasB f (p.1 : Int) (p.2 : Int) = true := by
  obtain ⟨b, hb, hj⟩ := h
  have hi := (List.getElem?_eq_some_iff.mp hb).1
  unfold hasB
  rw [if_neg (by omega), Int.toNat_natCast, hb]
  cases b with
  | n k =>
    have hj : p.2 < k := hj
    show (isE (.n k) || ltB (.n k) (p.2 : Int)) = true
    simp [isE, ltB]
    omega
  | up => rfl
  | dn => rfl
end K74
/-! What a slot says, told in another way; is None. -/
namespace Ly
open PySem PySem.Spec PyProof.Rows L2
section
variable {xs : List Addr} {P0 H0 : Hp} {ow : List Addr} {σ : L2.St} {P H : Hp} {ss : List Sl}
theorem S8.prTell (S : S8 xs P0 H0 ow σ P H ss) {i : Nat} {R : Pr} {α : Type} {R' : α → Pr} (h : ss[i]? = some (.pr R)) (hR : ∀ (P : Hp) (v : V), R.p P v → ∃ a : α, (R' a).p P v) : ∃ a : α, S8 xs P0 H0 ow σ P H (ss.set i (.pr (R' a))) := by
  obtain ⟨v, fp, e, q, sub, put⟩ := SlAll.sameP S.sl h
  cases q with
  | pr r =>
    obtain ⟨a, r'⟩ := hR _ _ r
    exact ⟨a, S.p0, S.ld, S.h0, S.nw, S.ows, S.xh, put P H (.pr (R' a)) (Same.refl _) (fun _ _ _ => rfl) (.pr r')⟩
theorem S8.prTo (S : S8 xs P0 H0 ow σ P H ss) {i : Nat} {R R' : Pr} (h : ss[i]? = some (.pr R)) (hR : ∀ (P : Hp) (v : V), R.p P v → R'.p P v) : S8 xs P0 H0 ow σ P H (ss.set i (.pr R')) := by
  obtain ⟨_, S'⟩ := S.prTell (α := Unit) (R' := fun _ => R') h fun P v r => ⟨(), hR P v r⟩
  exact S'
theorem S8.owTell (S : S8 xs P0 H0 ow σ P H ss) {i : Nat} {O : Ow} {α : Type} {O' : α → Ow} (h : ss[i]? = some (.ow O)) (hO : ∀ (P H : Hp) (v : V) (fp : List Addr), O.ok P H v fp → ∃ a : α, (O' a).ok P H v fp) : ∃ a : α, S8 xs P0 H0 ow σ P H (ss.set i (.ow (O' a))) := by
  obtain ⟨v, fp, e, ok, hk, put⟩ := S.lendM h
  obtain ⟨a, ok'⟩ := hO P H v fp ok
  exact ⟨a, put P H (O' a) (Same.refl _) S.ld (fun _ _ _ e => e) (fun _ _ e => e) (fun b hb => (hk b hb).2) ok'⟩
theorem S8.owTo (S : S8 xs P0 H0 ow σ P H ss) {i : Nat} {O O' : Ow} (h : ss[i]? = some (.ow O)) (hO : ∀ (P H : Hp) (v : V) (fp : List Addr), O.ok P H v fp → O'.ok P H v fp) : S8 xs P0 H0 ow σ P H (ss.set i (.ow O')) := by
  obtain ⟨_, S'⟩ := S.owTell (α := Unit) (O' := fun _ => O') h fun P H v fp r => ⟨(), hO P H v fp r⟩
  exact S'
/-- a slot's own object, at its addresses -/
theorem S8.owFix (S : S8 xs P0 H0 ow σ P H ss) {i : Nat} {O : Ow} (h : ss[i]? = some (.ow O)) : ∃ v fp, S8 xs P0 H0 ow σ P H (ss.set i (.ow (fixO O v fp))) := by
  obtain ⟨v, fp, e, ok, hk, put⟩ := S.lendM h
  exact ⟨v, fp, put P H (fixO O v fp) (Same.refl _) S.ld (fun _ _ _ e => e) (fun _ _ e => e) (fun b hb => (hk b hb).2) ⟨rfl, rfl, ok⟩⟩
end
/-- x is None, x is not None -/
theorem rv_isN' {R : Pr} {b : Bool} (h : ∀ (P : Hp) (v : V), R.p P v → decide (v = .non) = b) : RVr (fun x y H Q => y = .non ∧ Q (.bl (decide (x = .non))) H) R pN (pB b) := rv0 fun P H u v Q l r1 r2 k => ⟨r2, by
  rw [h P u r1]
  exact k _ rfl⟩
theorem rv_notN' {R : Pr} {b : Bool} (h : ∀ (P : Hp) (v : V), R.p P v → (!decide (v = .non)) = b) : RVr (fun x y H Q => y = .non ∧ Q (.bl (!decide (x = .non))) H) R pN (pB b) := rv0 fun P H u v Q l r1 r2 k => ⟨r2, by
  rw [h P u r1]
  exact k _ rfl⟩
theorem pT_non {K : PySem.W.Frag} {Rs : List Pr} {P : Hp} {v : V} (h : (pT K Rs).p P v) : decide (v = .non) = false := by
  obtain ⟨a, ys, rfl, _⟩ := h
  simp
end Ly
/-! _law_play -/
namespace K74
open PySem PySem.Spec PyProof.Rows L2 Ly M74
/-- the state, whatever it is -/
def oSx : Ow := ⟨fun P H v fp => ∃ s, (oSt s).ok P H v fp, fun e k ⟨s, h⟩ => ⟨s, (oSt s).up e k h⟩⟩
section
variable {xs : List Addr} {P0 H0 : Hp} {ow : List Addr} {σ : L2.St} {P H : Hp} {ss : List Sl}
theorem _root_.Ly.S8.stT (S : S8 xs P0 H0 ow σ P H ss) {i : Nat} {v : V} {fp : List Addr} (h : ss[i]? = some (.ow (fixO oSx v fp))) : ∃ s, S8 xs P0 H0 ow σ P H (ss.set i (.ow (fixO (oSt s) v fp))) :=
  S.owTell (O' := fun s => fixO (oSt s) v fp) h fun _ _ _ _ ⟨h1, h2, s, h3⟩ => ⟨s, h1, h2, h3⟩
theorem _root_.Ly.S8.stH (S : S8 xs P0 H0 ow σ P H ss) {i : Nat} {s : Ste} {v : V} {fp : List Addr} (h : ss[i]? = some (.ow (fixO (oSt s) v fp))) : S8 xs P0 H0 ow σ P H (ss.set i (.ow (fixO oSx v fp))) :=
  S.owTo h fun _ _ _ _ ⟨h1, h2, h3⟩ => ⟨h1, h2, s, h3⟩
end
/-- the two lines at turn t of a play of r rounds -/
structure PlI (r t : Nat) (x y : Ln) : Prop where
  gx : Gd (6 + t) x
  gy : Gd (6 + t) y
  e : E (r - t) x y
def pPair (r t : Nat) : Pr := ⟨fun P v => ∃ x y, PlI r t x y ∧ (pL [pL (x.map pK), pL (y.map pK)]).p P v, fun e ⟨x, y, h, q⟩ => ⟨x, y, h, Pr.up _ e q⟩⟩
theorem eqv_nil (f : Ln) : PyData.eqv (.list (f.map bD)) (.list []) = decide (f = []) := by
  cases f with
  | nil => simp [PyData.eqv, PyData.eqvAll]
  | cons b f => simp [PyData.eqv, PyData.eqvAll]
structure PlA where
  x : Ln
  y : Ln
  r : Nat
section
variable {w : World} {K : PySem.W.Frag} {mg : Str → Option Value} {base : Heap} {cs : Cs}
abbrev sPl : Stmt := top 46
abbrev nPl : List Str := ["state", "first", "second", "rounds", "pair", "turn", "side", "place", "left", "due", "told", "spots", "ahead", "k"]
theorem scPl : FnScope nPl ["state", "first", "second", "rounds"] (defScope sPl) := ⟨rfl, rfl, rfl, by decide +kernel, rfl, by decide +kernel, by decide +kernel⟩
abbrev spPl : Sp := spM (fun _ : PlA => oSx) (fun a => [pL (a.x.map pK), pL (a.y.map pK), pI (a.r : Nat)]) (fun a => a.r ≤ 4 ∧ PlI a.r 0 a.x a.y) (fun _ => pB true) (fun _ => oSx)
/-- the helpers that the law's own defs call -/
structure Hlp (w : World) (K : PySem.W.Frag) (mg : Str → Option Value) (base : Heap) (cs : Cs) : Prop where
  tk : ∀ A : Around, Room 7 A → Cal PP w K mg base A "_law_take" spTk
  dp : ∀ A : Around, Room 7 A → Cal PP w K mg base A "_law_draw_place" (spDP K)
  an : ∀ A : Around, Room 7 A → Cal PP w K mg base A "_law_answer" (spLAn K)
  la : ∀ A : Around, Room 7 A → CalR PP w K mg base A "line_answer" (spAn K cs)
  al : ∀ A : Around, Room 7 A → CalR PP w K mg base A "lines_alike" (spLA K cs)
  ln : ∀ A : Around, Room 7 A → MakC PP w K mg base A "Line" cs.Line (spLI K cs.Line)
  po : ∀ A : Around, Room 7 A → Cal PP w K mg base A "_law_part_of" (spPO K)
  sm : ∀ A : Around, Room 7 A → A.guards = some [] → CalG PP w K mg base A "_law_same" (spSm K)
theorem ok_Pl {f : Addr} {fd : FuncData} (F : FnP K "_law_play" sPl f fd) (T : Cst K mg) (hp : Hlp w K mg base cs) : FnG PP w K mg base 8 f fd ["state", "first", "second", "rounds"] spPl := by
  refine fnMG 7 F scPl (fun _ => rfl) fun X cdv A outer s H0 Q EE hX hr hgd P0 a va fp σ pre S kQ => ?_
  subst hX
  obtain ⟨x0, y0, r⟩ := a
  obtain ⟨hr4, hi0⟩ := pre
  dsimp only at hr4 hi0 S
  refine w_asg 4 (R := pPair r 0) S (JE.to (JF.je (jf_lst (ja_cons (je_v 1 fun _ => pv 1) (ja_cons (je_v 2 fun _ => pv 2) ja_nil)))) fun P v h => ⟨x0, y0, hi0, h⟩) (fun ow σ P H S => ?_) scPl.nd
  refine w_for (ys := List.range r) (r := fun i : Nat => pI (i : Int)) S (JI.is (ji_range (je_v 3 fun _ => pv 3) (by omega) (by omega) (hm := fun _ => T.bt.range)) (by
      rw [Int.toNat_natCast]
      exact List.map_congr_left fun i _ => congrArg (fun z => pI z) (by omega))) (fun y => jg_name 5 fun _ => pg_name scPl.nd rfl (by first | exact .inl rfl | exact .inr rfl))
    (fun pre => [.ow (fixO oSx va fp), .pr (pL (x0.map pK)), .pr (pL (y0.map pK)), .pr (pI r), .pr (pPair r pre.length), .un, .un, .un, .un, .un, .un, .un, .un, .un]) (Wk.refl _) (by simp) ?_ ?_ (hp := passes_of rfl)
  · intro xs' P0' H0' up pre t post hys ow σ P H S
    obtain ⟨rfl, ht⟩ := range_ix hys
    generalize htl : pre.length = t at S ht
    obtain ⟨st, S⟩ := S.stT (i := 0) rfl
    obtain ⟨⟨⟨x, y⟩, hI⟩, S⟩ := S.prTell (i := 4) (α := { p : Ln × Ln // PlI r t p.1 p.2 }) (R' := fun p => pL [pL (p.1.1.map pK), pL (p.1.2.map pK)]) rfl fun P v ⟨x, y, h, q⟩ => ⟨⟨(x, y), h⟩, q⟩
    dsimp only at hI S
    obtain ⟨n, hn⟩ : ∃ n, r - t = n + 1 := ⟨r - t - 1, by omega⟩
    obtain ⟨gx, gy, hE⟩ := hI
    rw [hn] at hE
    -- the side
    have hsd := take_lt st (many := 2) (by decide)
    refine w_asg 6 (R := pI ((st.take 2).1 : Nat)) S (je_callM 0 (fun _ => hp.tk _ hr) (st, 2) (fun _ => pv 0) (ja_cons je_i ja_nil) (by show 2 < 1073741824; decide)) (fun ow σ P H S => ?_) scPl.nd
    have S : S8 xs' P0' H0' ow σ P H [.ow (fixO (oSt (st.take 2).2) va fp), .pr (pL (x0.map pK)), .pr (pL (y0.map pK)), .pr (pI r), .pr (pL [pL (x.map pK), pL (y.map pK)]), .pr (pI (t : Nat)), .pr (pI ((st.take 2).1 : Nat)), .un, .un, .un, .un, .un, .un, .un] := S
    generalize (st.take 2).2 = s1 at S
    generalize (st.take 2).1 = sd at S hsd
    let own : Ln := if sd = 1 then y else x
    let other : Ln := if sd = 1 then x else y
    have hsd2 : sd = 0 ∨ sd = 1 := by omega
    have gown : Gd (6 + t) own := by show Gd _ (if sd = 1 then y else x); split <;> assumption
    have goth : Gd (6 + t) other := by show Gd _ (if sd = 1 then x else y); split <;> assumption
    have hEo : E (n + 1) own other := by
      show E _ (if sd = 1 then y else x) (if sd = 1 then x else y)
      split
      · exact hE.symm
      · exact hE
    have ixo : ∀ {ss : List Sl} {p1 p2 p3 : Pos}, ss[4]? = some (.pr (pL [pL (x.map pK), pL (y.map pK)])) → ss[6]? = some (.pr (pI (sd : Nat))) → JE (C1 (cxOf (L2.CX PP w) PP w K mg base nPl "_law_play" (defScope sPl) f cdv A outer s H0 EE)) (.Subscript (.Name "pair" p1) (.Name "side" p2) p3) ss (pL (own.map pK)) ss := fun {ss p1 p2 p3} h4 h6 =>
      je_ixL (K := K) (j := sd) (je_v 4 (fun _ => pv 4) h4) (je_v 6 (fun _ => pv 6) h6) (fun _ _ => rfl) (ixN_nat rfl (by show sd < 2; omega)) (by rcases hsd2 with e | e <;> (show _ = some (pL ((if sd = 1 then y else x).map pK)); rw [e]; rfl))
    have ixt : ∀ {ss : List Sl} {p1 p2 p3 p4 p5 : Pos} {k : Nat}, ss[4]? = some (.pr (pL [pL (x.map pK), pL (y.map pK)])) → ss[6]? = some (.pr (pI (sd : Nat))) → JE (C1 (cxOf (L2.CX PP w) PP w K mg base nPl "_law_play" (defScope sPl) f cdv A outer s H0 EE)) (.Subscript (.Name "pair" p1) (.BinOp (.Constant (.int 1) k p2) .Sub (.Name "side" p3) p4) p5) ss (pL (other.map pK)) ss := fun {ss p1 p2 p3 p4 p5 k} h4 h6 =>
      je_ixL (K := K) (j := 1 - sd) (je_v 4 (fun _ => pv 4) h4) (je_sub je_i (je_v 6 (fun _ => pv 6) h6)) (fun _ _ => rfl) (ixN_nat (by omega) (by show 1 - sd < 2; omega)) (by rcases hsd2 with e | e <;> (show _ = some (pL ((if sd = 1 then x else y).map pK)); rw [e]; rfl))
    refine w_if S (q := decide (own = [])) (JT.is (jt_eqD (K := K) (ixo rfl rfl) (JF.je (jf_lst ja_nil)) (pd_l (pdl_map (fun b => pd_k b) own)) (pd_l pdl_nil) (sh_bs own) rfl (fun _ => room64 hr) (nomark _)) (eqv_nil own)) (fun h P H S => ?_) (fun h P H S => w_nil ?_)
    · have h : own = [] := of_decide_eq_true h
      have ho : other = [] := by
        rw [h] at hEo
        exact E_nil hEo goth.pos
      refine w_ret S (JE.is (je_eqD (K := K) (ixt rfl rfl) (JF.je (jf_lst ja_nil)) (pd_l (pdl_map (fun b => pd_k b) other)) (pd_l pdl_nil) (sh_bs other) rfl (fun _ => room64 hr) (nomark _)) (congrArg pB (show _ = true by rw [eqv_nil, ho]; rfl))) fun v P H S r1 => kQ v _ _ P H _ (up (S.stH (i := 0) rfl)) r1
    have hne : own ≠ [] := of_decide_eq_false h
    refine w_asg 7 (R := pP2 K (drawPl own s1).1) S (je_callM 0 (fun _ => hp.dp _ hr) (s1, own) (fun _ => pv 0) (ja_cons (ixo rfl rfl) ja_nil) ⟨hne, by have := gown.len; show own.length ≤ 1000; omega, gown.num⟩) (fun ow σ P H S => ?_) scPl.nd
    have hpl := drawPl_plc (s := s1) hne gown.pos gown.num
    have S : S8 xs' P0' H0' ow σ P H [.ow (fixO (oSt (drawPl own s1).2) va fp), .pr (pL (x0.map pK)), .pr (pL (y0.map pK)), .pr (pI r), .pr (pL [pL (x.map pK), pL (y.map pK)]), .pr (pI (t : Nat)), .pr (pI (sd : Nat)), .pr (pP2 K (drawPl own s1).1), .un, .un, .un, .un, .un, .un] := S
    generalize (drawPl own s1).2 = s2 at S
    generalize (drawPl own s1).1 = pl at S hpl
    obtain ⟨hplc, hpl1⟩ := hpl
    refine w_asg 8 (R := pI ((n + 1 : Nat) : Int)) S (JE.is (je_sub (je_v 3 fun _ => pv 3) (je_v 5 fun _ => pv 5)) (congrArg (fun z => pI z) (by omega))) (fun ow σ P H S => ?_) scPl.nd
    -- the law's answer
    have hans := lawAns_ans hEo hplc
    have hE2 : E2 n own pl other (ans n own pl other) := by
      have h := hans
      unfold lawAns at h
      exact e2B_iff.mp (by have := List.find?_some h; exact this)
    have hap : Plc other (ans n own pl other) ∧ (ans n own pl other).2 ≤ 1000 := by
      have h := hans
      unfold lawAns at h
      have hm := List.mem_of_find?_eq_some h
      have h2 : 2 ^ n ≤ 2 ^ 3 := Nat.pow_le_pow_right (by decide) (by omega)
      have e3 : 2 ^ 3 = 8 := rfl
      exact ⟨mem_spt hm, spt_num (by omega) goth.num hm⟩
    generalize hq : ans n own pl other = q at hans hE2 hap
    obtain ⟨hqp, hq1⟩ := hap
    refine w_asg 9 (R := pP2 K q) S (JE.is (je_call (fun _ => hp.an _ hr) (⟨own, other, n, pl⟩ : LAn) (ja_cons (ixo rfl rfl) (ja_cons (ixt rfl rfl) (ja_cons (JE.is (je_sub (je_v 8 fun _ => pv 8) je_i) (congrArg (fun z => pI z) (show ((n + 1 : Nat) : Int) - 1 = (n : Int) by omega))) (ja_cons (je_v 7 fun _ => pv 7) ja_nil)))) (preLAn_gd gown goth (by omega) (by omega) hplc hpl1)) (by show pOpt K (lawAns n own pl other) = _; rw [hans]; rfl)) (fun ow σ P H S => ?_) scPl.nd
    -- the program's answer
    let ax : LAx := ⟨x, y, ((n + 1 : Nat) : Int), (sd : Int), false, (pl.1 : Int), (pl.2 : Int)⟩
    have e1 : ax.own = own := by
      show (if (sd : Int) = 1 then y else x) = if sd = 1 then y else x
      rcases hsd2 with e | e <;> (rw [e]; rfl)
    have e2 : ax.other = other := by
      show (if (sd : Int) = 1 then x else y) = if sd = 1 then x else y
      rcases hsd2 with e | e <;> (rw [e]; rfl)
    have hpre : preAn ax := preAn_gd (m := 6 + t) gx gy (by show ((n + 1 : Nat) : Int).natAbs ≤ 16000000; omega) (fun _ _ => ⟨by show ((n + 1 : Nat) : Int) ≤ 4; omega, by show ((6 + t : Nat) : Int) + ((n + 1 : Nat) : Int) ≤ 10; omega⟩) (by show (sd : Int).natAbs ≤ 16000000; omega) (by
        obtain ⟨b, hb, _⟩ := hplc
        have := (List.getElem?_eq_some_iff.mp hb).1
        have := gown.len
        show (pl.1 : Int).natAbs ≤ 16000000
        omega) (by show (pl.2 : Int).natAbs ≤ 16000000; omega) (fun _ => by show (pl.2 : Int) ≤ 1000; omega)
    have hner : erAn K cs ax = none := by
      unfold erAn
      rw [if_neg (show ¬ (ax.r < 1 ∨ 5 < ax.r) by show ¬ (((n + 1 : Nat) : Int) < 1 ∨ 5 < ((n + 1 : Nat) : Int)); omega), if_neg (show ¬ (ax.s < 0 ∨ 1 < ax.s) by show ¬ ((sd : Int) < 0 ∨ 1 < (sd : Int)); omega), e1]
      have hb : hasB own ax.i ax.j = true := hasB_of hplc
      have hB : eB ax.r.toNat ax.x ax.y = true := by
        show eB ((n + 1 : Nat) : Int).toNat x y = true
        rw [Int.toNat_natCast]
        exact eB_iff.mpr hE
      rw [if_neg (by rw [hb]; decide), if_neg (by rw [hB]; decide)]
    refine w_asg 10 (R := pP2 K q) S (JE.is (je_call (pre := fun a => preAn a ∧ erAn K cs a = none) (fun _ => (hp.la _ hr).cal fun a h => h) ax (ja_cons (je_make (fun _ => hp.ln _ hr) x (ja_cons (je_ixL (K := K) (j := 0) (je_v 4 fun _ => pv 4) je_i (fun _ _ => rfl) rfl rfl) ja_nil) gx.ok) (ja_cons (je_make (fun _ => hp.ln _ hr) y (ja_cons (je_ixL (K := K) (j := 1) (je_v 4 fun _ => pv 4) je_i (fun _ _ => rfl) rfl rfl) ja_nil) gy.ok) (ja_cons (je_v 8 fun _ => pv 8) (ja_cons (je_v 6 fun _ => pv 6) (ja_cons (je_v 7 fun _ => pv 7) ja_nil))))) ⟨hpre, hner⟩) (by
      show pP2 K (ans (((n + 1 : Nat) : Int).toNat - 1) ax.own ((pl.1 : Int).toNat, (pl.2 : Int).toNat) ax.other) = _
      rw [e1, e2, Int.toNat_natCast, Int.toNat_natCast, Int.toNat_natCast, Nat.add_sub_cancel]
      rw [show ((pl.1, pl.2) : NP) = pl from rfl, hq])) (fun ow σ P H S => ?_) scPl.nd
    -- the same
    have hq0 : q.1 ≤ 16000000 := by
      obtain ⟨b, hb, _⟩ := hqp
      have := (List.getElem?_eq_some_iff.mp hb).1
      have := goth.len
      omega
    have wq : Wr (.tuple [.int (q.1 : Int), .int (q.2 : Int)]) := wr_pair (by omega) (by omega)
    have pdq : PD K (pP2 K q) (.tuple [.int (q.1 : Int), .int (q.2 : Int)]) := pd_t (pdl_cons pd_i (pdl_cons pd_i pdl_nil))
    have eqq : PyData.eqv (.tuple [.int (q.1 : Int), .int (q.2 : Int)]) (.tuple [.int (q.1 : Int), .int (q.2 : Int)]) = true := by simp [PyData.eqv, PyData.eqvAll]
    refine w_if S (q := false) (jt_w (jw_or (q := false) (jt_cmp (fun _ => op_isN) (rv_isN' fun P v h => pT_non h) (je_v 9 fun _ => pv 9) je_n (nomark _)) fun _ => jw_or1 (JT.is (jt_not (jt_val (je_callG (fun _ => hp.sm _ hr hgd) (⟨pP2 K q, pP2 K q, _, _, _⟩ : TwoS) (ja_cons (je_v 10 fun _ => pv 10) (ja_cons (je_v 9 fun _ => pv 9) ja_nil)) (preSm.of pdq pdq wq wq) rfl))) (by
      show (!(PyData.eqv _ _ && decide (_ = _))) = false
      rw [eqq]
      simp)))) (fun h => absurd h (by decide)) (fun _ P H S => w_nil ?_)
    -- the places of both
    let px : NP := if sd = 1 then q else pl
    let py : NP := if sd = 1 then pl else q
    refine w_asg 11 (R := pL [pP2 K px, pP2 K py]) S (je_if (q := decide (sd = 0)) (JT.is (jt_cmp (fun _ => op_eq) rv_eqI (je_v 6 fun _ => pv 6) je_i (nomark _)) (decide_eq_decide.mpr (by omega))) (fun h => ?_) (fun h => ?_)) (fun ow σ P H S => ?_) scPl.nd
    · have h : sd = 0 := of_decide_eq_true h
      have a1 : px = pl := by show (if sd = 1 then q else pl) = pl; rw [if_neg (by omega)]
      have a2 : py = q := by show (if sd = 1 then pl else q) = q; rw [if_neg (by omega)]
      rw [a1, a2]
      exact JF.je (jf_lst (ja_cons (je_v 7 fun _ => pv 7) (ja_cons (je_v 9 fun _ => pv 9) ja_nil)))
    · have h : ¬ sd = 0 := of_decide_eq_false h
      have a1 : px = q := by show (if sd = 1 then q else pl) = q; rw [if_pos (by omega)]
      have a2 : py = pl := by show (if sd = 1 then pl else q) = pl; rw [if_pos (by omega)]
      rw [a1, a2]
      exact JF.je (jf_lst (ja_cons (je_v 9 fun _ => pv 9) (ja_cons (je_v 7 fun _ => pv 7) ja_nil)))
    have hE2' : E2 n x px y py := by
      rcases hsd2 with e | e
      · subst e; exact hE2
      · subst e; exact hE2.symm
    have hpx : Plc x px ∧ px.2 ≤ 1000 := by
      rcases hsd2 with e | e
      · subst e; exact ⟨hplc, hpl1⟩
      · subst e; exact ⟨hqp, hq1⟩
    have hpy : Plc y py ∧ py.2 ≤ 1000 := by
      rcases hsd2 with e | e
      · subst e; exact ⟨hqp, hq1⟩
      · subst e; exact ⟨hplc, hpl1⟩
    generalize px = px at S hE2' hpx
    generalize py = py at S hE2' hpy
    refine w_asg 12 (R := pB (decide ((s2.take 2).1 = 1))) S (JE.is (je_cmp (fun _ => op_eq) rv_eqI (je_callM (R := pI ((s2.take 2).1 : Nat)) 0 (fun _ => hp.tk _ hr) (s2, 2) (fun _ => pv 0) (ja_cons je_i ja_nil) (by show 2 < 1073741824; decide)) je_i (nomark _)) (congrArg pB (decide_eq_decide.mpr (by omega)))) (fun ow σ P H S => ?_) scPl.nd
    have S : S8 xs' P0' H0' ow σ P H [.ow (fixO (oSt (s2.take 2).2) va fp), .pr (pL (x0.map pK)), .pr (pL (y0.map pK)), .pr (pI r), .pr (pL [pL (x.map pK), pL (y.map pK)]), .pr (pI (t : Nat)), .pr (pI (sd : Nat)), .pr (pP2 K pl), .pr (pI ((n + 1 : Nat) : Int)), .pr (pP2 K q), .pr (pP2 K q), .pr (pL [pP2 K px, pP2 K py]), .pr (pB (decide ((s2.take 2).1 = 1))), .un] := S
    generalize (s2.take 2).2 = s3 at S
    generalize decide ((s2.take 2).1 = 1) = ah at S
    let lk : Nat → Ln := fun k => if k = 0 then partOf x px.1 px.2 ah else partOf y py.1 py.2 ah
    refine w_asg 4 (R := pL [pL ((partOf x px.1 px.2 ah).map pK), pL ((partOf y py.1 py.2 ah).map pK)]) S (JE.is (JF.je (jf_lc (α := Nat) (ys := List.range 2) (r := fun k : Nat => pI (k : Int)) [("k", 13)] [.un, .pr (pL (x0.map pK)), .pr (pL (y0.map pK)), .pr (pI r), .pr (pL [pL (x.map pK), pL (y.map pK)]), .pr (pI (t : Nat)), .pr (pI (sd : Nat)), .pr (pP2 K pl), .pr (pI ((n + 1 : Nat) : Int)), .pr (pP2 K q), .pr (pP2 K q), .pr (pL [pP2 K px, pP2 K py]), .pr (pB ah), .un]
      (JI.is (ji_range je_i (by decide) (by decide) (hm := fun _ => T.bt.range)) rfl) (fun _ => blkOk_by (N := nPl) (sc := defScope sPl) (by decide +kernel)) (.drop (Wk.refl _)) rfl (fun y => jg_name 13 fun _ => pg_name scPl.nd rfl (by first | exact .inl rfl | exact .inr rfl)) (by simp) (by simp) (fun _ => true) (fun k => pL ((lk k).map pK)) (fun _ _ => jts_nil)
      (fun k hk _ => ?_) (le_line (by decide)) (fun _ => scPl.nd))) rfl) (fun ow σ P H S => w_nil ?_) scPl.nd
    · have hk2 : k = 0 ∨ k = 1 := by
        have := List.mem_range.mp hk
        omega
      rcases hk2 with rfl | rfl
      · exact je_call (Cal.blk fun _ => hp.po _ hr) (⟨true, x, px.1, px.2, ah⟩ : POx) (ja_cons (je_ixL (K := K) (j := 0) (je_v 4 fun _ => pv 4) (je_v 13 fun _ => pv 13) (fun _ _ => rfl) rfl rfl) (ja_cons (je_ixL (K := K) (j := 0) (je_v 11 fun _ => pv 11) (je_v 13 fun _ => pv 13) (fun _ _ => rfl) rfl rfl) (ja_cons (je_v 12 fun _ => pv 12) ja_nil))) ⟨by have := gx.len; show x.length ≤ 1000; omega, hpx.1⟩
      · exact je_call (Cal.blk fun _ => hp.po _ hr) (⟨true, y, py.1, py.2, ah⟩ : POx) (ja_cons (je_ixL (K := K) (j := 1) (je_v 4 fun _ => pv 4) (je_v 13 fun _ => pv 13) (fun _ _ => rfl) rfl rfl) (ja_cons (je_ixL (K := K) (j := 1) (je_v 11 fun _ => pv 11) (je_v 13 fun _ => pv 13) (fun _ _ => rfl) rfl rfl) (ja_cons (je_v 12 fun _ => pv 12) ja_nil))) ⟨by have := gy.len; show y.length ≤ 1000; omega, hpy.1⟩
    · have S := S.stH (i := 0) rfl
      have hI2 : PlI r (t + 1) (partOf x px.1 px.2 ah) (partOf y py.1 py.2 ah) := ⟨gx.part hpx.1 hpx.2 ah, gy.part hpy.1 hpy.2 ah, by
        have e : r - (t + 1) = n := by omega
        rw [e]
        unfold partOf
        cases ah with
        | true => exact hE2'.2
        | false => exact hE2'.1⟩
      have S := S.prTo (i := 4) (R' := pPair r (t + 1)) rfl fun P v h => ⟨_, _, hI2, h⟩
      have e : (pre ++ [t]).length = t + 1 := by
        rw [List.length_append, htl]
        rfl
      rw [e]
      exact at8 S (.keep (.keep (.keep (.keep (.keep (.drop (.drop (.drop (.drop (.drop (.drop (.drop (.drop (.keep .nil))))))))))))))
  · intro ow σ P H S
    exact w_ret S je_bl fun v P H S r1 => kQ v _ _ P H _ S r1
end
end K74
/-! Tests: a if c else b, a <= b < c; != of data. -/
namespace Ly
open PySem PySem.Spec PyProof.Rows L2
theorem pt_ifx {X : Cx} {c a b : Expr} {tc ta tb : TT} {pos : Pos} (hc : PT X c tc) (ha : PT X a ta) (hb : PT X b tb) : PT X (.IfExp c a b pos) (fun σ H Q => tc σ H fun d H1 => if d = true then ta σ H1 Q else tb σ H1 Q) := by
  refine ⟨fun pins s σ H Q I h => ?_⟩
  unfold PySem.isTrue
  refine wpAny_bind (thn (hc.run pins s σ H _ I h) fun d s1 ⟨H1, I1, q1⟩ => ?_)
  cases d with
  | true => exact ha.run pins s1 σ H1 Q I1 q1
  | false => exact hb.run pins s1 σ H1 Q I1 q1
section
variable {ι : Type} {F : ι → Cx} {K : PySem.W.Frag} {ss ss1 ss2 : List Sl} {Ra Rb Rc : Pr} {a b c : Expr} {pos : Pos} {d e : PyData}
theorem jt_ifx {q q' : Bool} (h : JT F c ss q ss1) (h1 : q = true → JT F a ss1 q' ss2) (h2 : q = false → JT F b ss1 q' ss2) : JT F (.IfExp c a b pos) ss q' ss2 := fun xs P0 H0 ow σ P H S Q k =>
  ⟨_, fun i => pt_ifx (xt i) (xt i) (xt i), h _ _ _ _ _ _ _ S _ fun P2 H2 S2 e => by
    cases q with
    | true => exact iteT (h1 rfl _ _ _ _ _ _ _ S2 _ fun P3 H3 S3 e3 => k P3 H3 S3 (e.trans e3))
    | false => exact iteF (h2 rfl _ _ _ _ _ _ _ S2 _ fun P3 H3 S3 e3 => k P3 H3 S3 (e.trans e3))⟩
/-- i <= j < k -/
theorem jt_chain {i j k : Int} (ha : JE F a ss (pI i) ss) (hb : JE F b ss (pI j) ss) (hc : JE F c ss (pI k) ss) (hm : lastMarks [CmpOp.LtE, CmpOp.Lt] [b, c] = false := by with_unfolding_all rfl) : JT F (.Compare a [.LtE, .Lt] [b, c] pos) ss (decide (i ≤ j) && decide (j < k)) ss := fun xs P0 H0 ow σ P H S Q kk =>
  ⟨_, fun z => pt_chain op_le op_lt (xe z) (xe z) (xe z) hm, ha _ _ _ _ _ _ _ S _ fun v P2 H2 S2 e2 r2 => hb _ _ _ _ _ _ _ S2 _ fun u P3 H3 S3 e3 r3 => by
    obtain rfl : v = .int i := r2
    obtain rfl : u = .int j := r3
    refine ⟨i, j, rfl, rfl, decide (i ≤ j), rfl, ?_⟩
    by_cases h : i ≤ j
    · rw [decide_eq_true h]
      refine iteT (hc _ _ _ _ _ _ _ S3 _ fun w P4 H4 S4 e4 r4 => ?_)
      obtain rfl : w = .int k := r4
      refine ⟨j, k, rfl, rfl, decide (j < k), rfl, ?_⟩
      have := kk P4 H4 S4 (e2.trans (e3.trans e4))
      rw [decide_eq_true h, Bool.true_and] at this
      exact this
    · rw [decide_eq_false h]
      refine iteF ⟨false, rfl, ?_⟩
      have := kk P3 H3 S3 (e2.trans e3)
      rw [decide_eq_false h, Bool.false_and] at this
      exact this⟩
theorem rv_neD {Ra Rb : Pr} {d e : PyData} (ha : PD K Ra d) (hb : PD K Rb e) (sd : SeqAt.shaped d = true) (se : SeqAt.shaped e = true) : RVr (rNeD K) Ra Rb (pB (!PyData.eqv d e)) := rv0 fun P H u v Q l a b k =>
  ⟨d, e, ha P H u l a, hb P H v l b, sd, se, k _ rfl⟩
theorem jt_neD (ha : JE F a ss Ra ss1) (hb : JE F b ss1 Rb ss2) (da : PD K Ra d) (db : PD K Rb e) (sd : SeqAt.shaped d = true) (se : SeqAt.shaped e = true) (hu : ∀ i, (F i).A.units + 64 < cLine) (hm : behindInMarks .NotEq b = false) (hK : ∀ i, (F i).K = K := by intro _; rfl) :
    JT F (.Compare a [.NotEq] [b] pos) ss (!PyData.eqv d e) ss2 := jt_cmp (fun i => hK i ▸ op_neD (hu i)) (rv_neD da db sd se) ha hb hm
end
end Ly
/-! _law_refused -/
namespace K74
open PySem PySem.Spec PyProof.Rows L2 Ly M74
/-! ### texts of ints -/
theorem ok_app (a b : Str) (ha : PyData.strOk a = true) (hb : PyData.strOk b = true) : PyData.strOk (a ++ b) = true := by
  unfold PyData.strOk at ha hb ⊢
  show (a.cps ++ b.cps).all _ = true
  rw [Array.all_append, ha, hb]
  rfl
theorem ok_int (i : Int) : PyData.strOk (PyData.int i).shown = true := by
  unfold PyData.strOk
  rw [Array.all_eq_true]
  intro k hk
  have hm : (PyData.int i).shown.cps[k] ∈ (PyData.int i).shown.cps.toList := Array.mem_toList_iff.mpr (Array.getElem_mem hk)
  simp only [decide_eq_true_eq]
  by_cases h : (PyData.int i).shown.cps[k] ≤ 57
  · omega
  · exact absurd hm (shown_int_free' ⟨by omega, .inr (by omega)⟩ i)
theorem ok_tx (e : ErD) : PyData.strOk e.tx = true := by
  cases e with
  | count i => exact ok_int i
  | apart i => exact ok_int i
  | place i j =>
    show PyData.strOk (PyData.tuple [.int i, .int j]).shown = true
    have e : (PyData.tuple [.int i, .int j]).shown = tupleText [(PyData.int i).shown, (PyData.int j).shown] := by simp only [PyData.shown, PyData.shownAll]
    rw [e]
    have a1 : PyData.strOk ("(" : Str) = true := by decide +kernel
    have a2 : PyData.strOk (", " : Str) = true := by decide +kernel
    have a3 : PyData.strOk (")" : Str) = true := by decide +kernel
    exact ok_app _ _ (ok_app _ _ a1 (ok_app _ _ (ok_app _ _ (ok_int i) a2) (ok_int j))) a3
theorem ok_nm (e : ErD) : PyData.strOk e.nm = true := by
  cases e with
  | count i => show PyData.strOk ("count" : Str) = true; decide +kernel
  | place i j => show PyData.strOk ("place" : Str) = true; decide +kernel
  | apart i => show PyData.strOk ("apart" : Str) = true; decide +kernel
def nmD (e : ErD) : PyData := .tuple [.str e.nm, .str e.tx]
theorem sh_nm (e : ErD) : SeqAt.shaped (nmD e) = true := by
  have h : PyData.canLayAll0 [.str e.nm, .str e.tx] = true := by simp only [PyData.canLayAll0, PyData.canLay0, ok_nm, ok_tx, Bool.and_true]
  unfold SeqAt.shaped nmD
  simp only [PyData.canLay0, h, Bool.true_and, PyData.depth, PyData.depthAll]
  rfl
theorem pd_nm {K : PySem.W.Frag} (e : ErD) : PD K (pT K [pS e.nm, pS e.tx]) (nmD e) := pd_t (pdl_cons pd_s (pdl_cons pd_s pdl_nil))
theorem eqv_nm (e : ErD) : PyData.eqv (nmD e) (nmD e) = true := SeqAt.eqv_refl _ (SeqAt.canLay_of_shaped (sh_nm e))
/-! ### the state hidden -/
section
variable {ι : Type} {F : ι → Cx} {ss ss1 : List Sl} {R : Pr} {e : Expr} {va : V} {fp : List Addr}
theorem je_st (i : Nat) (h : ∀ s, JE F e (ss.set i (.ow (fixO (oSt s) va fp))) R ss1) (hs : ss[i]? = some (.ow (fixO oSx va fp)) := by rfl) : JE F e ss R ss1 := fun xs P0 H0 ow σ P H S Q k => by
  obtain ⟨s, S'⟩ := S.stT hs
  exact h s _ _ _ _ _ _ _ S' Q k
theorem JE.stH {s : Ste} (h : JE F e ss R ss1) (i : Nat) (hs : ss1[i]? = some (.ow (fixO (oSt s) va fp)) := by rfl) : JE F e ss R (ss1.set i (.ow (fixO oSx va fp))) := fun xs P0 H0 ow σ P H S Q k =>
  h _ _ _ _ _ _ _ S _ fun v P2 H2 S2 e2 r => k v P2 H2 (S2.stH hs) e2 r
end
/-- a number that is drawn -/
def pLt (m : Nat) : Pr := ⟨fun _ v => ∃ n : Nat, n < m ∧ v = .int (n : Int), fun _ h => h⟩
/-- one of these -/
def pOf (l : List Int) : Pr := ⟨fun _ v => ∃ i, i ∈ l ∧ v = .int i, fun _ h => h⟩
/-- branches that meet, telling something -/
theorem w_ifE {ι : Type} (ssJ : ι → List Sl) {X : Cx} {xs : List Addr} {P0 H0 : Hp} {ow : List Addr} {σ : L2.St} {P H : Hp} {ss ss1 : List Sl} {D : Ends} {rest : List Stmt} {pos : Pos} {c : Expr} {a b : List Stmt} {q : Bool} (S : S8 xs P0 H0 ow σ P H ss) (h : JT (C1 X) c ss q ss1)
    (h1 : q = true → ∀ P H, S8 xs P0 H0 ow σ P H ss1 → XS X a { D with nx := fun σ H => ∃ z ow P, S8 xs P0 H0 ow σ P H (ssJ z) } σ H)
    (h2 : q = false → ∀ P H, S8 xs P0 H0 ow σ P H ss1 → XS X b { D with nx := fun σ H => ∃ z ow P, S8 xs P0 H0 ow σ P H (ssJ z) } σ H) (k : ∀ z ow σ P H, S8 xs P0 H0 ow σ P H (ssJ z) → XS X rest D σ H) : XS X (.If c a b pos :: rest) D σ H :=
  w_if S h (fun e P H S => (h1 e P H S).mono (fun σ H ⟨z, ow, P, S⟩ => k z ow σ P H S) (fun _ _ q => q) (fun _ _ q => q) (fun _ _ q => q))
    (fun e P H S => (h2 e P H S).mono (fun σ H ⟨z, ow, P, S⟩ => k z ow σ P H S) (fun _ _ q => q) (fun _ _ q => q) (fun _ _ q => q))
section
variable {w : World} {K : PySem.W.Frag} {mg : Str → Option Value} {base : Heap} {cs : Cs}
abbrev sRf : Stmt := top 47
abbrev nRf : List Str := ["state", "first", "second", "rounds", "alike", "lines", "odd", "many", "side", "blocks", "place", "due", "menu", "told"]
theorem scRf : FnScope nRf ["state", "first", "second", "rounds", "alike"] (defScope sRf) := ⟨rfl, rfl, rfl, by decide +kernel, rfl, by decide +kernel, by decide +kernel⟩
noncomputable abbrev spRf : Sp := spM (fun _ : PlA => oSx) (fun a => [pL (a.x.map pK), pL (a.y.map pK), pI (a.r : Nat), pB (eB a.r a.x a.y)]) (fun a => a.r ≤ 4 ∧ Gd 6 a.x ∧ Gd 6 a.y) (fun _ => pB true) (fun _ => oSx)
structure HlpT (w : World) (K : PySem.W.Frag) (mg : Str → Option Value) (base : Heap) (cs : Cs) : Prop where
  h : Hlp w K mg base cs
  t0 : ∀ A : Around, Room 8 A → A.guards = some [] → CalG PP w K mg base A "_law_try" (spT0 K cs)
  t1 : ∀ A : Around, Room 8 A → A.guards = some [] → CalG PP w K mg base A "_law_try" (spT1 K cs)
  t2 : ∀ A : Around, Room 8 A → A.guards = some [] → CalG PP w K mg base A "_law_try" (spT2 K)
/-- what is due, as the law says it -/
def pDue (K : PySem.W.Frag) : Option ErD → Pr
  | none => pN
  | some e => pT K [pS e.nm, pS e.tx]
def bl3 (x y : Ln) (s : Int) : Ln := if s = 1 then y else x
theorem anE_place {a : LAx} (h1 : ¬ (a.r < 1 ∨ 5 < a.r)) (h2 : ¬ (a.s < 0 ∨ 1 < a.s)) (h3 : hasB a.own a.i a.j = false) : anE a = some (.place a.i a.j) := by
  unfold anE
  rw [if_neg h1, if_neg h2, if_pos h3]
theorem anE_apart {a : LAx} (h1 : ¬ (a.r < 1 ∨ 5 < a.r)) (h2 : ¬ (a.s < 0 ∨ 1 < a.s)) (h3 : hasB a.own a.i a.j = true) (h4 : eB a.r.toNat a.x a.y = false) : anE a = some (.apart a.r) := by
  unfold anE
  rw [if_neg h1, if_neg h2, if_neg (by rw [h3]; decide), if_pos h4]
theorem anE_none {a : LAx} (h1 : ¬ (a.r < 1 ∨ 5 < a.r)) (h2 : ¬ (a.s < 0 ∨ 1 < a.s)) (h3 : hasB a.own a.i a.j = true) (h4 : eB a.r.toNat a.x a.y = true) : anE a = none := by
  unfold anE
  rw [if_neg h1, if_neg h2, if_neg (by rw [h3]; decide), if_neg (by rw [h4]; decide)]
theorem hasB_off {f : Ln} {i j : Int} (h : i < 0 ∨ (f.length : Int) ≤ i ∨ j < 0) : hasB f i j = false := by
  unfold hasB
  rw [if_pos h]
/-- a place, and whether it is one of the line at hand -/
structure PlcR (bl : Ln) (b : Bool) (i j : Int) : Prop where
  bi : i.natAbs ≤ 1000000
  bj : j.natAbs ≤ 1000000
  at_ : b = false → hasB bl i j = true ∧ j ≤ 1000
  off : b = true → hasB bl i j = false
def pPlc (K : PySem.W.Frag) (bl : Ln) : Pr := ⟨fun P v => ∃ i j : Int, (bl ≠ [] → PlcR bl false i j) ∧ (pT K [pI i, pI j]).p P v, fun e ⟨i, j, h, q⟩ => ⟨i, j, h, Pr.up _ e q⟩⟩
def pMenu (K : PySem.W.Frag) (l : List (Int × Int)) : Pr := ⟨fun P v => ∃ q : Int × Int, q ∈ l ∧ (pT K [pI q.1, pI q.2]).p P v, fun e ⟨q, h, r⟩ => ⟨q, h, Pr.up _ e r⟩⟩
def pMany (r : Nat) : Pr := ⟨fun _ v => ∃ m : Int, (m.natAbs ≤ 1000000 ∧ (1 ≤ m → m ≤ 5 → m = max (r : Int) 1)) ∧ v = .int m, fun _ h => h⟩
def pSide : Pr := ⟨fun _ v => ∃ m : Int, m.natAbs ≤ 1000000 ∧ v = .int m, fun _ h => h⟩
open Classical in
noncomputable def dueD (x y : Ln) (r : Nat) (m s i j : Int) (b : Bool) : Option ErD := if m < 1 ∨ 5 < m then some (.count m) else if s < 0 ∨ 1 < s then some (.count s) else
  if b = true then some (.place i j) else if 0 < r ∧ eB r x y = false then some (.apart r) else none
theorem dueD_anE {x y : Ln} {r : Nat} {m s i j : Int} {b : Bool} (hm : 1 ≤ m → m ≤ 5 → m = max (r : Int) 1) (hP : PlcR (bl3 x y s) b i j) (h : 0 < r ∨ dueD x y r m s i j b ≠ none) : anE ⟨x, y, m, s, true, i, j⟩ = dueD x y r m s i j b := by
  unfold dueD at h ⊢
  by_cases h1 : m < 1 ∨ 5 < m
  · rw [if_pos h1]
    unfold anE
    rw [if_pos h1]
  · rw [if_neg h1] at h ⊢
    by_cases h2 : s < 0 ∨ 1 < s
    · rw [if_pos h2]
      unfold anE
      rw [if_neg h1, if_pos h2]
    · rw [if_neg h2] at h ⊢
      cases b with
      | true =>
        rw [if_pos rfl]
        exact anE_place h1 h2 (hP.off rfl)
      | false =>
        rw [if_neg (by decide)] at h ⊢
        have em := hm (by omega) (by omega)
        have hh := (hP.at_ rfl).1
        by_cases h3 : 0 < r ∧ eB r x y = false
        · rw [if_pos h3]
          have e : m = (r : Int) := by have := h3.1; omega
          subst e
          exact anE_apart h1 h2 hh (by rw [Int.toNat_natCast]; exact h3.2)
        · rw [if_neg h3] at h ⊢
          rcases h with h | h
          · have e : m = (r : Int) := by omega
            subst e
            refine anE_none h1 h2 hh ?_
            rw [Int.toNat_natCast]
            cases z : eB r x y with
            | true => rfl
            | false => exact absurd ⟨h, z⟩ h3
          · exact absurd rfl h
theorem ok_Rf {f : Addr} {fd : FuncData} (F : FnP K "_law_refused" sRf f fd) (T : Cst K mg) (hrep : mg "repr" = none) (hh : HlpT w K mg base cs) : FnG PP w K mg base 9 f fd ["state", "first", "second", "rounds", "alike"] spRf := by
  refine fnMG 8 F scRf (fun _ => rfl) fun X cdv A outer s H0 Q EE hX hr hgd P0 a va fp σ pre S kQ => ?_
  subst hX
  obtain ⟨x, y, r⟩ := a
  obtain ⟨hr4, gx, gy⟩ := pre
  dsimp only at hr4 gx gy S
  have hp := hh.h
  have hr7 : Room 7 (cxOf (L2.CX PP w) PP w K mg base nRf "_law_refused" (defScope sRf) f cdv A outer s H0 EE).A := hr.mono (by decide)
  -- a draw, the state hidden
  have tkx : ∀ {ss : List Sl} {m : Nat} {p1 p2 p3 p4 : Pos} {k : Nat}, 0 < m → m < 100 → ss[0]? = some (.ow (fixO oSx va fp)) → ss.set 0 (.ow (fixO oSx va fp)) = ss → JE (C1 (cxOf (L2.CX PP w) PP w K mg base nRf "_law_refused" (defScope sRf) f cdv A outer s H0 EE)) (.Call (.Name "_law_take" p1) [.Name "state" p2, .Constant (.int (m : Nat)) k p3] [] p4) ss (pLt m) ss := by
    intro ss m p1 p2 p3 p4 k hm hm2 h0 hset
    refine je_st 0 (fun st => ?_) h0
    have hl : 0 < ss.length := (List.getElem?_eq_some_iff.mp h0).1
    have e0 : (ss.set 0 (.ow (fixO (oSt st) va fp)))[0]? = some (.ow (fixO (oSt st) va fp)) := by rw [List.getElem?_set_self hl]
    have j1 := je_callM (F := C1 (cxOf (L2.CX PP w) PP w K mg base nRf "_law_refused" (defScope sRf) f cdv A outer s H0 EE)) (p := p1) (pos := p4) (R := pI ((st.take m).1 : Nat)) 0 (fun _ => hp.tk _ hr7) (st, m) (fun _ => pv (pos := p2) 0) (ja_cons (je_i (j := k) (pos := p3)) ja_nil) (by show m < 1073741824; omega) e0 e0
    have j2 := JE.stH j1 0 (by rw [List.set_set, List.getElem?_set_self hl])
    simp only [List.set_set] at j2
    rw [hset] at j2
    exact JE.to j2 fun P v h => ⟨_, take_lt st hm, h⟩
  -- one of some numbers
  have pkx : ∀ {ss : List Sl} (l : List Int) {e : Expr} {p1 p2 p3 p4 p5 : Pos} {k : Nat}, (∀ ss', JE (C1 (cxOf (L2.CX PP w) PP w K mg base nRf "_law_refused" (defScope sRf) f cdv A outer s H0 EE)) e ss' (pL (l.map fun i => pI i)) ss') → 0 < l.length → l.length < 100 → ss[0]? = some (.ow (fixO oSx va fp)) → ss.set 0 (.ow (fixO oSx va fp)) = ss →
      JE (C1 (cxOf (L2.CX PP w) PP w K mg base nRf "_law_refused" (defScope sRf) f cdv A outer s H0 EE)) (.Subscript e (.Call (.Name "_law_take" p1) [.Name "state" p2, .Constant (.int (l.length : Nat)) k p3] [] p4) p5) ss (pOf l) ss := by
    intro ss l e p1 p2 p3 p4 p5 k he hm hm2 h0 hset
    refine je_st 0 (fun st => ?_) h0
    have hl : 0 < ss.length := (List.getElem?_eq_some_iff.mp h0).1
    have e0 : (ss.set 0 (.ow (fixO (oSt st) va fp)))[0]? = some (.ow (fixO (oSt st) va fp)) := by rw [List.getElem?_set_self hl]
    have hlt := take_lt st hm
    have j1 := je_callM (F := C1 (cxOf (L2.CX PP w) PP w K mg base nRf "_law_refused" (defScope sRf) f cdv A outer s H0 EE)) (p := p1) (pos := p4) (R := pI ((st.take l.length).1 : Nat)) 0 (fun _ => hp.tk _ hr7) (st, l.length) (fun _ => pv (pos := p2) 0) (ja_cons (je_i (j := k) (pos := p3)) ja_nil) (by show l.length < 1073741824; omega) e0 e0
    have j0 := je_ixL (K := K) (pos := p5) (R := pI (l[(st.take l.length).1])) (he _) j1 (fun _ _ => rfl) (ixN_nat rfl (by rw [List.length_map]; exact hlt)) (by rw [List.getElem?_map, List.getElem?_eq_getElem hlt]; rfl)
    have j2 := JE.stH j0 0 (by rw [List.set_set, List.getElem?_set_self hl])
    simp only [List.set_set] at j2
    rw [hset] at j2
    exact JE.to j2 fun P v h => ⟨_, List.getElem_mem hlt, h⟩
  refine w_asg 5 (R := pL [pLn K cs.Line x, pLn K cs.Line y]) S (JF.je (jf_lst (ja_cons (je_make (fun _ => hp.ln _ hr7) x (ja_cons (je_v 1 fun _ => pv 1) ja_nil) gx.ok) (ja_cons (je_make (fun _ => hp.ln _ hr7) y (ja_cons (je_v 2 fun _ => pv 2) ja_nil) gy.ok) ja_nil)))) (fun ow σ P H S => ?_) scRf.nd
  let sl0 : Sl := .ow (fixO oSx va fp)
  let sx : Sl := .pr (pL (x.map pK))
  let sy : Sl := .pr (pL (y.map pK))
  let sr : Sl := .pr (pI (r : Nat))
  let sb : Sl := .pr (pB (eB r x y))
  let sL : Sl := .pr (pL [pLn K cs.Line x, pLn K cs.Line y])
  refine w_asg 6 (R := pLt 16) S (tkx (m := 16) (by decide) (by decide) rfl rfl) (fun ow σ P H S => ?_) scRf.nd
  obtain ⟨⟨o, ho⟩, S⟩ := S.prTell (i := 6) (α := { n : Nat // n < 16 }) (R' := fun n => pI (n.1 : Nat)) rfl fun P v ⟨n, h, q⟩ => ⟨⟨n, h⟩, q⟩
  dsimp only at S
  refine w_asg 7 (R := pMany r) S (JE.to (je_max2 (je_v 3 fun _ => pv 3) je_i (fun _ => T.bt.max)) fun P v h => ⟨_, ⟨by omega, fun _ _ => rfl⟩, h⟩) (fun ow σ P H S => ?_) scRf.nd
  refine w_asg 8 (R := pSide) S (JE.to (tkx (m := 2) (by decide) (by decide) rfl rfl) fun P v ⟨n, h, e⟩ => ⟨_, by omega, e⟩) (fun ow σ P H S => ?_) scRf.nd
  refine w_ifJ [sl0, sx, sy, sr, sb, sL, .pr (pI (o : Nat)), .pr (pMany r), .pr pSide, .un, .un, .un, .un, .un] S (q := decide ((o : Int) % 2 = 1)) (jt_cmp (fun _ => op_eq) rv_eqI (je_mod (je_int (je_v 6 fun _ => pv 6) (fun _ => T.bt.int)) je_i (by decide)) je_i (nomark _)) (fun _ P H S => ?_) (fun _ P H S => w_nil ⟨_, _, S⟩) fun ow σ P H S => ?_
  · exact w_asg 7 (R := pMany r) S (JE.to (pkx [0, 6, -1, 1000000] (fun ss' => JF.je (jf_lst (ja_cons je_i (ja_cons je_i (ja_cons (je_neg je_i) (ja_cons je_i ja_nil)))))) (by decide) (by decide) rfl rfl) fun P v ⟨i, hi, e⟩ => ⟨i, by simp at hi; rcases hi with h | h | h | h <;> (subst h; exact ⟨by decide, by omega⟩), e⟩) (fun ow σ P H S => w_nil ⟨_, _, S⟩) scRf.nd
  refine w_ifJ [sl0, sx, sy, sr, sb, sL, .pr (pI (o : Nat)), .pr (pMany r), .pr pSide, .un, .un, .un, .un, .un] S (q := decide ((o : Int) / 2 % 2 = 1)) (jt_cmp (fun _ => op_eq) rv_eqI (je_mod (je_fdiv (je_v 6 fun _ => pv 6) je_i ⟨by decide, by decide⟩) je_i (by decide)) je_i (nomark _)) (fun _ P H S => ?_) (fun _ P H S => w_nil ⟨_, _, S⟩) fun ow σ P H S => ?_
  · exact w_asg 8 (R := pSide) S (JE.to (pkx [2, -1, 1000000] (fun ss' => JF.je (jf_lst (ja_cons je_i (ja_cons (je_neg je_i) (ja_cons je_i ja_nil))))) (by decide) (by decide) rfl rfl) fun P v ⟨i, hi, e⟩ => ⟨i, by simp at hi; rcases hi with h | h | h <;> (subst h; decide), e⟩) (fun ow σ P H S => w_nil ⟨_, _, S⟩) scRf.nd
  obtain ⟨⟨m, hm0, hm⟩, S⟩ := S.prTell (i := 7) (α := { m : Int // m.natAbs ≤ 1000000 ∧ (1 ≤ m → m ≤ 5 → m = max (r : Int) 1) }) (R' := fun n => pI n.1) rfl fun P v ⟨n, h, q⟩ => ⟨⟨n, h⟩, q⟩
  obtain ⟨⟨sd, hsd⟩, S⟩ := S.prTell (i := 8) (α := { m : Int // m.natAbs ≤ 1000000 }) (R' := fun n => pI n.1) rfl fun P v ⟨n, h, q⟩ => ⟨⟨n, h⟩, q⟩
  dsimp only at S
  generalize hbl : bl3 x y sd = bl
  have gbl : Gd 6 bl := by rw [← hbl]; unfold bl3; split <;> assumption
  refine w_asg 9 (R := pL (bl.map pK)) S (je_if (jt_chain je_i (je_v 8 fun _ => pv 8) je_i) (fun h => ?_) (fun h => ?_)) (fun ow σ P H S => ?_) scRf.nd
  · rw [Bool.and_eq_true] at h
    have h1 : 0 ≤ sd := of_decide_eq_true h.1
    have h2 : sd < 2 := of_decide_eq_true h.2
    refine je_ixL (K := K) (j := sd.toNat) (JF.je (jf_lst (ja_cons (je_v 1 fun _ => pv 1) (ja_cons (je_v 2 fun _ => pv 2) ja_nil)))) (je_v 8 fun _ => pv 8) (fun _ _ => rfl) (ixN_nat (by omega) (by show sd.toNat < 2; omega)) ?_
    subst hbl
    unfold bl3
    rcases (show sd = 0 ∨ sd = 1 by omega) with e | e <;> (subst e; rfl)
  · have e : bl = x := by
      rw [← hbl]
      unfold bl3
      rw [if_neg]
      intro e
      subst e
      revert h
      decide
    rw [e]
    exact je_v 1 fun _ => pv 1
  let sm : Sl := .pr (pI m)
  let ss : Sl := .pr (pI sd)
  let sB : Sl := .pr (pL (bl.map pK))
  have hneq : ∀ {op : CmpOp} {p1 p2 p3 : Pos} {SS : List Sl}, SS[9]? = some sB → JT (C1 (cxOf (L2.CX PP w) PP w K mg base nRf "_law_refused" (defScope sRf) f cdv A outer s H0 EE)) (.Compare (.Name "blocks" p1) [.NotEq] [.List [] p2] p3) SS (!decide (bl = [])) SS := fun {op p1 p2 p3 SS} h =>
    JT.is (jt_neD (K := K) (je_v 9 (fun _ => pv 9) h) (JF.je (jf_lst ja_nil)) (pd_l (pdl_map (fun b => pd_k b) bl)) (pd_l pdl_nil) (sh_bs bl) rfl (fun _ => room64 hr7) (nomark _)) (by rw [eqv_nil])
  have heq : ∀ {p1 p2 p3 : Pos} {SS : List Sl}, SS[9]? = some sB → JT (C1 (cxOf (L2.CX PP w) PP w K mg base nRf "_law_refused" (defScope sRf) f cdv A outer s H0 EE)) (.Compare (.Name "blocks" p1) [.Eq] [.List [] p2] p3) SS (decide (bl = [])) SS := fun {p1 p2 p3 SS} h =>
    JT.is (jt_eqD (K := K) (je_v 9 (fun _ => pv 9) h) (JF.je (jf_lst ja_nil)) (pd_l (pdl_map (fun b => pd_k b) bl)) (pd_l pdl_nil) (sh_bs bl) rfl (fun _ => room64 hr7) (nomark _)) (eqv_nil bl)
  refine w_asg 10 (R := pPlc K bl) S (je_ifS (ss1 := [sl0, sx, sy, sr, sb, sL, .pr (pI (o : Nat)), sm, ss, sB, .un, .un, .un, .un]) (ss2 := [sl0, sx, sy, sr, sb, sL, .pr (pI (o : Nat)), sm, ss, sB, .un, .un, .un, .un]) (hneq (op := .NotEq) rfl) (fun h => ?_) (fun h => ?_)) (fun ow σ P H S => ?_) scRf.nd
  · have hne : bl ≠ [] := by
      intro e
      rw [e] at h
      exact absurd h (by decide)
    refine je_st 0 (fun st => ?_) rfl
    have hpl := drawPl_plc (s := st) hne gbl.pos gbl.num
    refine JE.to (JE.stH (s := (drawPl bl st).2) (je_callM (R := pP2 K (drawPl bl st).1) 0 (fun _ => hp.dp _ hr7) (st, bl) (fun _ => pv 0) (ja_cons (je_v 9 fun _ => pv 9) ja_nil) ⟨hne, by have := gbl.len; show bl.length ≤ 1000; omega, gbl.num⟩) 0 rfl) fun P v hv => ⟨_, _, fun _ => ?_, hv⟩
    obtain ⟨b, hb, _⟩ := id hpl.1
    have h1 := (List.getElem?_eq_some_iff.mp hb).1
    have h2 := gbl.len
    have h3 := hpl.2
    exact ⟨by omega, by omega, fun _ => ⟨hasB_of hpl.1, by omega⟩, fun h => absurd h (by decide)⟩
  · have hne : bl = [] := by
      cases bl with
      | nil => rfl
      | cons b l => exact absurd h (by simp)
    exact JE.to (je_tup K (ja_cons je_i (ja_cons je_i ja_nil))) fun P v hv => ⟨0, 0, fun e => absurd hne e, hv⟩
  refine w_asg 11 (R := pDue K none) S je_n (fun ow σ P H S => ?_) scRf.nd
  let D0 : Option ErD := if 0 < r ∧ eB r x y = false then some (.apart r) else none
  refine w_ifJ [sl0, sx, sy, sr, sb, sL, .pr (pI (o : Nat)), sm, ss, sB, .pr (pPlc K bl), .pr (pDue K D0), .un, .un] S (q := decide (0 < r) && !(eB r x y)) (jt_w (jw_and (JT.is (jt_cmp (fun _ => op_gt) rv_I0 (je_v 3 fun _ => pv 3) je_i (nomark _)) (decide_eq_decide.mpr (by omega))) fun _ => jw_and1 (jt_not (jt_val (je_v 4 fun _ => pv 4))))) (fun h P H S => ?_) (fun h P H S => w_nil ?_) fun ow σ P H S => ?_
  · rw [Bool.and_eq_true] at h
    have h1 : 0 < r := of_decide_eq_true h.1
    have h2 : eB r x y = false := by
      have := h.2
      revert this
      cases eB r x y <;> decide
    have e : D0 = some (.apart r) := if_pos ⟨h1, h2⟩
    rw [e]
    have wr := wr_int (i := (r : Int)) (by omega)
    exact w_asg 11 (R := pDue K (some (.apart r))) S (je_tup K (ja_cons je_s (ja_cons (je_repr (K := K) (je_v 3 fun _ => pv 3) pd_i wr.sh wr.dp wr.sw wr.ln (fun _ => hgd) (fun _ => room64 hr7) (fun _ => hrep)) ja_nil))) (fun ow σ P H S => w_nil ⟨_, _, S⟩) scRf.nd
  · have e : D0 = none := if_neg fun ⟨h1, h2⟩ => by
      rw [decide_eq_true h1, h2] at h
      exact absurd h (by decide)
    rw [e]
    exact ⟨_, _, S⟩
  have hr8 : Room 8 (cxOf (L2.CX PP w) PP w K mg base nRf "_law_refused" (defScope sRf) f cdv A outer s H0 EE).A := hr
  let sJ : { q : Int × Int × Bool // PlcR bl q.2.2 q.1 q.2.1 } → List Sl := fun z => [sl0, sx, sy, sr, sb, sL, .pr (pI (o : Nat)), sm, ss, sB, .pr (pT K [pI z.1.1, pI z.1.2.1]), .pr (pDue K (if z.1.2.2 = true then some (.place z.1.1 z.1.2.1) else D0)), .un, .un]
  refine w_ifE sJ S (q := decide ((o : Int) / 4 % 2 = 1) || decide (bl = [])) (jt_w (jw_or (jt_cmp (fun _ => op_eq) rv_eqI (je_mod (je_fdiv (je_v 6 fun _ => pv 6) je_i ⟨by decide, by decide⟩) je_i (by decide)) je_i (nomark _)) fun _ => jw_or1 (heq rfl))) (fun h P H S => ?_) (fun h P H S => w_nil ?_) fun z ow σ P H S => ?_
  · let mn : List (Int × Int) := [(-1, 0), (bl.length, 0), (0, -1), (1000000, 3)]
    refine w_asg 12 (R := pL (mn.map fun q => pT K [pI q.1, pI q.2])) S (JF.je (jf_lst (ja_cons (je_tup K (ja_cons (je_neg je_i) (ja_cons je_i ja_nil))) (ja_cons (je_tup K (ja_cons (JE.is (je_lenL (je_v 9 fun _ => pv 9) (fun _ => T.bt.len)) (by rw [List.length_map])) (ja_cons je_i ja_nil))) (ja_cons (je_tup K (ja_cons je_i (ja_cons (je_neg je_i) ja_nil))) (ja_cons (je_tup K (ja_cons je_i (ja_cons je_i ja_nil))) ja_nil)))) (hz := le_line (show 4 ≤ 100000 by decide)))) (fun ow σ P H S => ?_) scRf.nd
    refine w_asg 10 (R := pMenu K mn) S (je_st 0 (fun st => ?_) rfl) (fun ow σ P H S => ?_) scRf.nd (ss1 := [sl0, sx, sy, sr, sb, sL, .pr (pI (o : Nat)), sm, ss, sB, .pr (pPlc K bl), .pr (pDue K D0), .pr (pL (mn.map fun q => pT K [pI q.1, pI q.2])), .un])
    · have hlt := take_lt st (show 0 < 4 by decide)
      refine JE.to (JE.stH (s := (st.take 4).2) (je_ixL (K := K) (Rs := mn.map fun q => pT K [pI q.1, pI q.2]) (R := pT K [pI (mn[(st.take 4).1]'hlt).1, pI (mn[(st.take 4).1]'hlt).2]) (je_v 12 fun _ => pv 12) (je_callM (R := pI ((st.take 4).1 : Nat)) 0 (fun _ => hp.tk _ hr7) (st, 4) (fun _ => pv 0) (ja_cons je_i ja_nil) (by show 4 < 1073741824; decide)) (fun _ _ => rfl) (ixN_nat rfl hlt) (by rw [List.getElem?_map, List.getElem?_eq_getElem hlt]; rfl)) 0 rfl) fun P v h => ⟨_, List.getElem_mem hlt, h⟩
    obtain ⟨⟨q, hq⟩, S⟩ := S.prTell (i := 10) (α := { q : Int × Int // q ∈ mn }) (R' := fun q => pT K [pI q.1.1, pI q.1.2]) rfl fun P v ⟨q, h, r⟩ => ⟨⟨q, h⟩, r⟩
    obtain ⟨i, j⟩ := q
    dsimp only at S
    have hP : PlcR bl true i j := by
      have h2 := gbl.len
      have hq' : (i, j) = ((-1, 0) : Int × Int) ∨ (i, j) = ((bl.length, 0) : Int × Int) ∨ (i, j) = ((0, -1) : Int × Int) ∨ (i, j) = ((1000000, 3) : Int × Int) := by simpa [mn] using hq
      rcases hq' with e | e | e | e <;> (injection e with e1 e2; subst e1 e2; exact ⟨by omega, by omega, fun h => absurd h (by decide), fun _ => hasB_off (by omega)⟩)
    have wr := wr_pair (i := i) (j := j) (by have := hP.bi; omega) (by have := hP.bj; omega)
    refine w_asg 11 (R := pDue K (some (.place i j))) S (je_tup K (ja_cons je_s (ja_cons (je_repr (K := K) (je_v 10 fun _ => pv 10) (pd_t (pdl_cons pd_i (pdl_cons pd_i pdl_nil))) wr.sh wr.dp wr.sw wr.ln (fun _ => hgd) (fun _ => room64 hr7) (fun _ => hrep)) ja_nil))) (fun ow σ P H S => w_nil ?_) scRf.nd
    obtain ⟨ow', S⟩ := S.weak (wk_set _ 12)
    exact ⟨⟨(i, j, true), hP⟩, _, _, S⟩
  · have hne : bl ≠ [] := by
      intro e
      rw [e, decide_eq_true rfl, Bool.or_true] at h
      exact absurd h (by decide)
    obtain ⟨⟨q, hq⟩, S⟩ := S.prTell (i := 10) (α := { q : Int × Int // PlcR bl false q.1 q.2 }) (R' := fun q => pT K [pI q.1.1, pI q.1.2]) rfl fun P v ⟨i, j, h, r⟩ => ⟨⟨(i, j), h hne⟩, r⟩
    exact ⟨⟨(q.1, q.2, false), hq⟩, _, _, S⟩
  obtain ⟨⟨i, j, b⟩, hP⟩ := z
  dsimp only at hP
  let D1 : Option ErD := if b = true then some (.place i j) else D0
  have S : S8 fp P0 H0 ow σ P H [sl0, sx, sy, sr, sb, sL, .pr (pI (o : Nat)), sm, ss, sB, .pr (pT K [pI i, pI j]), .pr (pDue K D1), .un, .un] := S
  let D2 : Option ErD := if sd < 0 ∨ 1 < sd then some (.count sd) else D1
  let D3 : Option ErD := if m < 1 ∨ 5 < m then some (.count m) else D2
  let sP : Sl := .pr (pT K [pI i, pI j])
  refine w_ifJ [sl0, sx, sy, sr, sb, sL, .pr (pI (o : Nat)), sm, ss, sB, sP, .pr (pDue K D2), .un, .un] S (q := decide (sd < 0) || decide (1 < sd)) (jt_w (jw_or (jt_cmp (fun _ => op_lt) rv_I0 (je_v 8 fun _ => pv 8) je_i (nomark _)) fun _ => jw_or1 (jt_cmp (fun _ => op_gt) rv_I0 (je_v 8 fun _ => pv 8) je_i (nomark _)))) (fun h P H S => ?_) (fun h P H S => w_nil ?_) fun ow σ P H S => ?_
  · have h1 : sd < 0 ∨ 1 < sd := by simpa using h
    have e : D2 = some (.count sd) := if_pos h1
    rw [e]
    have wr := wr_int (i := sd) (by omega)
    exact w_asg 11 (R := pDue K (some (.count sd))) S (je_tup K (ja_cons je_s (ja_cons (je_repr (K := K) (je_v 8 fun _ => pv 8) pd_i wr.sh wr.dp wr.sw wr.ln (fun _ => hgd) (fun _ => room64 hr7) (fun _ => hrep)) ja_nil))) (fun ow σ P H S => w_nil ⟨_, _, S⟩) scRf.nd
  · have h1 : ¬ (sd < 0 ∨ 1 < sd) := by simpa using h
    have e : D2 = D1 := if_neg h1
    rw [e]
    exact ⟨_, _, S⟩
  refine w_ifJ [sl0, sx, sy, sr, sb, sL, .pr (pI (o : Nat)), sm, ss, sB, sP, .pr (pDue K D3), .un, .un] S (q := decide (m < 1) || decide (5 < m)) (jt_w (jw_or (jt_cmp (fun _ => op_lt) rv_I0 (je_v 7 fun _ => pv 7) je_i (nomark _)) fun _ => jw_or1 (jt_cmp (fun _ => op_gt) rv_I0 (je_v 7 fun _ => pv 7) je_i (nomark _)))) (fun h P H S => ?_) (fun h P H S => w_nil ?_) fun ow σ P H S => ?_
  · have h1 : m < 1 ∨ 5 < m := by simpa using h
    have e : D3 = some (.count m) := if_pos h1
    rw [e]
    have wr := wr_int (i := m) (by omega)
    exact w_asg 11 (R := pDue K (some (.count m))) S (je_tup K (ja_cons je_s (ja_cons (je_repr (K := K) (je_v 7 fun _ => pv 7) pd_i wr.sh wr.dp wr.sw wr.ln (fun _ => hgd) (fun _ => room64 hr7) (fun _ => hrep)) ja_nil))) (fun ow σ P H S => w_nil ⟨_, _, S⟩) scRf.nd
  · have h1 : ¬ (m < 1 ∨ 5 < m) := by simpa using h
    have e : D3 = D2 := if_neg h1
    rw [e]
    exact ⟨_, _, S⟩
  have e3 : D3 = dueD x y r m sd i j b := rfl
  have hN : ∀ (P : Hp) (v : V), (pDue K D3).p P v → (!decide (v = .non)) = D3.isSome := by
    intro P v h
    revert h
    cases D3 with
    | none => intro h; obtain rfl : v = .non := h; rfl
    | some e => intro h; rw [pT_non h]; rfl
  have hn : ∀ (P : Hp) (v : V), (pDue K D3).p P v → (decide (v = .non)) = D3.isNone := by
    intro P v h
    have := hN P v h
    revert this
    cases D3 <;> simp
  let a : LAx := ⟨x, y, m, sd, true, i, j⟩
  have eown : a.own = bl := by rw [← hbl]; rfl
  refine w_ifJ [sl0, sx, sy, sr, sb, sL, .pr (pI (o : Nat)), sm, ss, sB, sP, .pr (pDue K D3), .un, .un] S (q := decide (0 < r) || D3.isSome) (jt_w (jw_or (JT.is (jt_cmp (fun _ => op_gt) rv_I0 (je_v 3 fun _ => pv 3) je_i (nomark _)) (decide_eq_decide.mpr (by omega))) fun _ => jw_or1 (jt_cmp (fun _ => op_notN) (rv_notN' hN) (je_v 11 fun _ => pv 11) je_n (nomark _)))) (fun h P H S => ?_) (fun h P H S => w_nil ⟨_, _, S⟩) fun ow σ P H S => ?_
  · have hpre : preAn a := preAn_gd (m := 6) gx gy (by show m.natAbs ≤ 16000000; omega) (fun h1 h2 => by
        have h1 : 1 ≤ m := h1
        have h2 : m ≤ 5 := h2
        have := hm h1 h2
        show m ≤ 4 ∧ (6 : Int) + m ≤ 10
        omega) (by show sd.natAbs ≤ 16000000; omega) (by have := hP.bi; show i.natAbs ≤ 16000000; omega) (by have := hP.bj; show j.natAbs ≤ 16000000; omega) (fun hb => by
        rw [eown] at hb
        have hb : hasB bl i j = true := hb
        cases b with
        | true => rw [hP.off rfl] at hb; cases hb
        | false => exact (hP.at_ rfl).2)
    have hcond : 0 < r ∨ dueD x y r m sd i j b ≠ none := by
      rw [Bool.or_eq_true] at h
      rcases h with h | h
      · exact .inl (of_decide_eq_true h)
      · right
        rw [← e3]
        intro e
        rw [e] at h
        cases h
    have hE : anE a = D3 := dueD_anE hm (by rw [hbl]; exact hP) hcond
    refine w_asg 13 (R := tryR K a) S (je_callG (fun _ => hh.t1 _ hr8 hgd) a (ja_cons je_i (ja_cons (je_ixL (K := K) (j := 0) (je_v 5 fun _ => pv 5) je_i (fun _ _ => rfl) rfl rfl) (ja_cons (je_ixL (K := K) (j := 1) (je_v 5 fun _ => pv 5) je_i (fun _ _ => rfl) rfl rfl) (ja_cons (je_v 7 fun _ => pv 7) (ja_cons (je_v 8 fun _ => pv 8) (ja_cons (JF.je (jf_listT (K := K) (je_v 10 fun _ => pv 10) (fun _ => T.bt.list))) ja_nil)))))) hpre rfl) (fun ow σ P H S => ?_) scRf.nd
    have hend : ∀ (R : Pr) (P : Hp) (H : Hp), S8 fp P0 H0 ow σ P H [sl0, sx, sy, sr, sb, sL, .pr (pI (o : Nat)), sm, ss, sB, sP, .pr (pDue K D3), .un, .pr R] → At8 fp P0 H0 [sl0, sx, sy, sr, sb, sL, .pr (pI (o : Nat)), sm, ss, sB, sP, .pr (pDue K D3), .un, .un] σ H := fun R P H S => at8 S (wk_set _ 13)
    have hT : (∃ R, tryR K a = pT K [pS "told", R] ∧ D3 = none) ∨ ∃ e, tryR K a = pT K [pS e.nm, pS e.tx] ∧ D3 = some e := by
      unfold tryR
      rw [hE]
      cases D3 with
      | none => exact .inl ⟨_, rfl, rfl⟩
      | some e => exact .inr ⟨e, rfl, rfl⟩
    rcases hT with ⟨R, eT, eD⟩ | ⟨e, eT, eD⟩
    · rw [eT] at S
      refine w_if S (q := false) (jt_ifx (q := true) (jt_cmp (fun _ => op_isN) (rv_isN' (b := true) fun P v h => by rw [hn P v h, eD]; rfl) (je_v 11 fun _ => pv 11) je_n (nomark _)) (fun _ => JT.is (jt_cmp (fun _ => op_ne) (rv_ne rfl) (je_ixT (K := K) (j := 0) (je_v 13 fun _ => pv 13) je_i (fun _ _ => rfl) rfl rfl) je_s (nomark _)) (by simp)) (fun h => absurd h (by decide))) (fun h => absurd h (by decide)) (fun _ P H S => w_nil (w_nil (hend _ _ _ S)))
    · rw [eT] at S
      refine w_if S (q := false) (jt_ifx (q := false) (jt_cmp (fun _ => op_isN) (rv_isN' (b := false) fun P v h => by rw [hn P v h, eD]; rfl) (je_v 11 fun _ => pv 11) je_n (nomark _)) (fun h => absurd h (by decide)) (fun _ => JT.is (jt_neD (K := K) (je_v 13 fun _ => pv 13) (je_v (R := pDue K D3) 11 fun _ => pv 11) (pd_nm e) (by rw [eD]; exact pd_nm e) (sh_nm e) (sh_nm e) (fun _ => room64 hr7) (nomark _)) (by rw [eqv_nm]; rfl))) (fun h => absurd h (by decide)) (fun _ P H S => w_nil (w_nil (hend _ _ _ S)))
  refine w_asg 6 (R := pOf [-1, 6, 7, 1000000]) S (pkx [-1, 6, 7, 1000000] (fun ss' => JF.je (jf_lst (ja_cons (je_neg je_i) (ja_cons je_i (ja_cons je_i (ja_cons je_i ja_nil)))))) (by decide) (by decide) rfl rfl) (fun ow σ P H S => ?_) scRf.nd
  obtain ⟨⟨o1, ho1⟩, S⟩ := S.prTell (i := 6) (α := { n : Int // n ∈ [-1, 6, 7, 1000000] }) (R' := fun n => pI n.1) rfl fun P v ⟨n, h, q⟩ => ⟨⟨n, h⟩, q⟩
  dsimp only at S
  have ho1' : o1.natAbs ≤ 16000000 ∧ (o1 < 0 ∨ 5 < o1) := by
    simp at ho1
    omega
  have wr1 := wr_int (i := o1) ho1'.1
  refine w_if S (q := false) (JT.is (jt_neD (K := K) (je_callG (fun _ => hh.t0 _ hr8 hgd) ((x, y, o1) : Ln × Ln × Int) (ja_cons je_i (ja_cons (je_ixL (K := K) (j := 0) (je_v 5 fun _ => pv 5) je_i (fun _ _ => rfl) rfl rfl) (ja_cons (je_ixL (K := K) (j := 1) (je_v 5 fun _ => pv 5) je_i (fun _ _ => rfl) rfl rfl) (ja_cons (je_v 6 fun _ => pv 6) (ja_cons je_i (ja_cons je_i ja_nil)))))) ho1' rfl)
    (je_tup K (ja_cons je_s (ja_cons (je_repr (K := K) (je_v 6 fun _ => pv 6) pd_i wr1.sh wr1.dp wr1.sw wr1.ln (fun _ => hgd) (fun _ => room64 hr7) (fun _ => hrep)) ja_nil))) (pd_nm (.count o1)) (pd_nm (.count o1)) (sh_nm _) (sh_nm _) (fun _ => room64 hr7) (nomark _)) (by rw [eqv_nm]; rfl)) (fun h => absurd h (by decide)) (fun _ P H S => w_nil ?_)
  refine w_asg 6 (R := pOf [-1, 6, 0, 1000000]) S (pkx [-1, 6, 0, 1000000] (fun ss' => JF.je (jf_lst (ja_cons (je_neg je_i) (ja_cons je_i (ja_cons je_i (ja_cons je_i ja_nil)))))) (by decide) (by decide) rfl rfl) (fun ow σ P H S => ?_) scRf.nd
  obtain ⟨⟨o2, ho2⟩, S⟩ := S.prTell (i := 6) (α := { n : Int // n ∈ [-1, 6, 0, 1000000] }) (R' := fun n => pI n.1) rfl fun P v ⟨n, h, q⟩ => ⟨⟨n, h⟩, q⟩
  dsimp only at S
  have ho2' : o2.natAbs ≤ 16000000 ∧ (o2 < 1 ∨ 5 < o2) := by
    simp at ho2
    omega
  have wr2 := wr_int (i := o2) ho2'.1
  exact w_ret S (JE.is (je_eqD (K := K) (je_callG (fun _ => hh.t2 _ hr8 hgd) (o2 : Int) (ja_cons je_i (ja_cons je_i (ja_cons je_i (ja_cons (je_v 6 fun _ => pv 6) (ja_cons je_i (ja_cons je_i ja_nil)))))) ho2' rfl)
    (je_tup K (ja_cons je_s (ja_cons (je_repr (K := K) (je_v 6 fun _ => pv 6) pd_i wr2.sh wr2.dp wr2.sw wr2.ln (fun _ => hgd) (fun _ => room64 hr7) (fun _ => hrep)) ja_nil))) (pd_nm (.count o2)) (pd_nm (.count o2)) (sh_nm _) (sh_nm _) (fun _ => room64 hr7) (nomark _)) (congrArg pB (eqv_nm _))) fun v P H S r1 => kQ v _ _ P H _ S r1
end
end K74
/-! What a slot's own object says, read as data; min of a list; is not of bools. -/
namespace Ly
open PySem PySem.Spec PyProof.Rows L2
section
variable {ι : Type} {F : ι → Cx} {K : PySem.W.Frag} {ss ss1 ss2 : List Sl} {R : Pr} {O : Ow} {e a b : Expr} {pos p : Pos} {x : Str}
theorem je_vo (i : Nat) (h : ∀ j, PE (F j) e (tVar i)) (hs : ss[i]? = some (.ow O)) (hO : ∀ (P H : Hp) (v : V) (fp : List Addr), O.ok P H v fp → R.p P v) : JE F e ss R ss := fun xs P0 H0 ow σ P H S Q k => by
  obtain ⟨v, fp, ev, ok, _, _⟩ := S.lendM hs
  exact ⟨_, h, v, ev, k v P H S (Same.refl _) (hO P H v fp ok)⟩
theorem rv_isnotB {a b : Bool} : RVr (fun x y H Q => ∃ a b, x = .bl a ∧ y = .bl b ∧ Q (.bl (!decide (a = b))) H) (pB a) (pB b) (pB (!decide (a = b))) := rv0 fun P H u v Q l r1 r2 k => ⟨a, b, r1, r2, k _ rfl⟩
/-- min(xs), xs a list of ints -/
theorem je_minL {ns : List Int} {m : Int} (ha : JE F e ss (pL (ns.map fun n => pI n)) ss1) (hm1 : m ∈ ns) (hm2 : ∀ y ∈ ns, m ≤ y) (hm : ∀ i, (F i).mg "min" = none) (hg : ∀ i, Gl (F i) "min" := by intro _; rfl) (he : ∀ i, starEach [e] (F i).env = (false, eval e (F i).env) :: starEach [] (F i).env := by intro _; rfl)
    (hpl : ∀ i, (backTo pos (starEach [] (F i).env)).any (·.1) = false := by intro _; rfl) (hK : ∀ i, (F i).K = K := by intro _; rfl) (hc : ∀ i, (F i).calm = true := by intro _; rfl) : JE F (.Call (.Name "min" p) [e] [] pos) ss (pI m) ss1 :=
  je_cb (r := rMin K) (fun i => hK i ▸ cr_min (hc i)) (fun P H vs Q l r k => by
    obtain ⟨v, rfl, r1⟩ := pl1 r
    obtain ⟨a, ys, rfl, h2, h3⟩ := r1
    have e : ys = ns.map V.int := by
      have h : PL P ((ns.map V.int).map pV) ys := by rw [List.map_map]; exact h3
      exact h.scal
    subst e
    refine ⟨a, ns, rfl, .inl (l.rd h2), List.length_pos_of_mem hm1, fun m' h1 h2 => ?_⟩
    have : m' = m := by
      have := h2 m hm1
      have := hm2 m' h1
      omega
    subst this
    exact k _ P H (Gr.refl l) rfl) (ja_cons ha ja_nil he) hm (by decide +kernel) hg (by decide) (by decide) he hpl
end
end Ly
/-! _law_facts_part: the sums -/
namespace K74
open PySem PySem.Spec PyProof.Rows L2 Ly M74
theorem okB_fact {r : Nat} (h : r ≤ 5) : okB 2 2 2 r := by
  have key : okB 2 2 2 5 := by
    refine ⟨by omega, by decide, by decide, by decide, by decide, by decide, by decide, by decide, by decide, by decide, ?_⟩
    show _ ≤ 16000000
    decide
  rcases (show r = 0 ∨ r = 1 ∨ r = 2 ∨ r = 3 ∨ r = 4 ∨ r = 5 by omega) with e | e | e | e | e | e <;> subst e
  · show 2 ≤ 16000000
    omega
  · exact ⟨by omega, by decide, (by show _ ≤ 16000000; decide)⟩
  · exact ⟨by omega, by decide, by decide, by decide, (by show _ ≤ 16000000; decide)⟩
  · exact ⟨by omega, by decide, by decide, by decide, by decide, by decide, (by show _ ≤ 16000000; decide)⟩
  · exact ⟨by omega, by decide, by decide, by decide, by decide, by decide, by decide, by decide, (by show _ ≤ 16000000; decide)⟩
  · exact key
theorem form_one (m k : Nat) : (form m [.n k]).length ≤ 1 := by
  have : mrg [.n k] = [.n k] := rfl
  unfold form
  rw [this]
  split
  · exact List.length_filter_le _ _
  · exact Nat.le_of_eq (by rw [List.length_map]; rfl)
theorem form_ud (m : Nat) : form m [.up, .dn] = [.up, .dn] := by
  have : mrg [.up, .dn] = [.up, .dn] := rfl
  unfold form
  rw [this]
  split <;> rfl
theorem Sm_one {r k : Nat} (h : 0 < k) (h2 : k ≤ 1000) : Sm r 2 2 [.n k] where
  pos := fun j hj => by
    have : j = k := by simpa using hj
    omega
  len := by show 1 ≤ 50; decide
  num := fun j hj => by
    have : j = k := by simpa using hj
    omega
  wt := by
    have h1 := wt_len (form (2 ^ r - 1) [.n k])
    have h2 := form_one (2 ^ r - 1) k
    omega
  fl := by
    have h2 := form_one (2 ^ r - 1) k
    omega
theorem Sm_ud {r : Nat} : Sm r 2 2 [.up, .dn] where
  pos := fun j hj => by simp at hj
  len := by show 2 ≤ 50; decide
  num := fun j hj => by simp at hj
  wt := by rw [form_ud]; decide
  fl := by rw [form_ud]; decide
theorem preBA_nums {r a b : Nat} (hr : r ≤ 5) (ha : 0 < a) (ha2 : a ≤ 1000) (hb : 0 < b) (hb2 : b ≤ 1000) : preBA [.n a] [.n b] r := ⟨hr, 2, 2, by decide, Sm_one ha ha2, Sm_one hb hb2, okB_fact hr⟩
theorem preBA_ud {r a : Nat} (hr : r ≤ 5) (ha : 0 < a) (ha2 : a ≤ 1000) : preBA [.n a] [.up, .dn] r := ⟨hr, 2, 2, by decide, Sm_one ha ha2, Sm_ud, okB_fact hr⟩
theorem fin_pos {a : Nat} (h : 0 < a) : M74.fin a = [.n a] := by
  unfold M74.fin
  rw [if_neg (by omega)]
theorem eB_nums {r a b : Nat} (ha : 0 < a) (hb : 0 < b) : eB r [.n a] [.n b] = (decide (a = b) || decide (2 ^ r - 1 ≤ min a b)) := by
  have h1 := E_fin_only r a b
  have h2 := E_big r a b
  rw [fin_pos ha, fin_pos hb] at h1 h2
  rw [Bool.eq_iff_iff, eB_iff, Bool.or_eq_true, decide_eq_true_iff, decide_eq_true_iff]
  constructor
  · intro h
    rcases h1 h with e | ⟨e1, e2⟩
    · exact .inl e
    · exact .inr (by omega)
  · intro h
    rcases h with e | e
    · subst e
      exact E.refl _ _
    · exact h2 (by omega) (by omega)
theorem eB_ud {r : Nat} (hr : 0 < r) : eB r [.n (2 ^ r - 1)] [.up, .dn] = true := by
  have h := E_updn r (2 ^ r - 1) (Nat.le_refl _)
  have h2 : 2 ^ 1 ≤ 2 ^ r := Nat.pow_le_pow_right (by decide) hr
  rw [fin_pos (by omega)] at h
  exact eB_iff.mpr h
end K74
/-! _law_facts_part -/
namespace K74
open PySem PySem.Spec PyProof.Rows L2 Ly M74
/-- the breaker's answer at its addresses -/
def oBrkA (K : PySem.W.Frag) (last : Nat) (prs : List (Str × Str)) (z : Addr × Addr × Addr × Addr) : Ow := ⟨fun P H v fp => v = .ref z.1 ∧ fp = [z.2.2.1] ∧ P z.1 = some (.tup [.ref z.2.1, .ref z.2.2.1]) ∧ H z.2.2.1 = some (.dK [(Sum.inr "p", .ref z.2.2.2)]),
    fun e k ⟨h1, h2, h3, h6⟩ => ⟨h1, h2, e _ _ h3, by subst h2; rw [k z.2.2.1 (by simp)]; exact h6⟩⟩
theorem oBrk_tell {K : PySem.W.Frag} {last : Nat} {prs : List (Str × Str)} (P H : Hp) (v : V) (fp : List Addr) (h : (oBrk K (some (last, prs))).ok P H v fp) : ∃ z, (oBrkA K last prs z).ok P H v fp := by
  obtain ⟨t, t1, d, tp, h1, h2, h3, h4, h5, h6⟩ := h
  exact ⟨(t, t1, d, tp), h1, h2, h3, h6⟩
theorem oBrk_frz {K : PySem.W.Frag} {b : Brk} (P H : Hp) (v : V) (fp : List Addr) (ld : Ld P H) (h : (oBrk K b).ok P H v fp) (hn : ∀ a ∈ fp, P a = none) : ∃ P', Same P P' ∧ Ld P' H ∧ (pBrk K b).p P' v := by
  cases b with
  | none => exact ⟨P, Same.refl _, ld, h.1⟩
  | some z =>
    obtain ⟨last, prs⟩ := z
    obtain ⟨t, t1, d, tp, h1, h2, h3, h4, h5, h6⟩ := h
    have nd : P d = none := hn d (by rw [h2]; simp)
    have sm := same_upd (o := .dK [(Sum.inr "p", V.ref tp)]) nd
    refine ⟨upd P d (.dK [(Sum.inr "p", .ref tp)]), sm, fun b o e => ?_, t, t1, d, tp, h1, sm _ _ h3, (pT K _).up sm h4, (pT K _).up sm h5, upd_same⟩
    by_cases q : b = d
    · subst q
      rw [upd_same] at e
      rw [← e]
      exact .inl h6
    · rw [upd_ne q] at e
      exact ld b o e
def oAny : Ow := ⟨fun _ _ _ _ => True, fun _ _ h => h⟩
section
variable {X : Cx} {K : PySem.W.Frag} {xs : List Addr} {P0 H0 : Hp} {ow : List Addr} {σ : L2.St} {P H : Hp} {ss ss1 : List Sl} {R : Pr} {D : Ends} {rest : List Stmt} {e : Expr} {pos : Pos} {last : Nat} {prs : List (Str × Str)} {z : Addr × Addr × Addr × Addr}
/-- told[1]["q"] = e -/
theorem w_brkQ (i : Nat) {o b : Expr} {p : Pos} (S : S8 xs P0 H0 ow σ P H ss) (h : JE (C1 X) e ss R ss1) (ho : JE (C1 X) o ss1 (pV (.ref z.2.2.1)) ss1) (hb : JE (C1 X) b ss1 (pS "q") ss1) (hu : X.A.units + 1 < cLine) (hs1 : ss1[i]? = some (.ow (oBrkA K last prs z)) := by rfl)
    (k : ∀ ow P H, S8 xs P0 H0 ow σ P H (ss1.set i .un) → XS X rest D σ H)
    (ha : ∀ v, assign (.Subscript o b p) X.env v = (do
      let ov ← holding [v] (eval o X.env)
      let iv ← holding [v, ov] (eval b X.env)
      standAt p
      holding [v, ov, iv] (setItem ov iv v)
      release [v, ov, iv] []) := by intro _; rfl)
    (hw : swapsWithSole [.Subscript o b p] e pos.line X.env = pure false := by rfl) (hw2 : swappedStores [.Subscript o b p] e X.env = pure none := by rfl) (h1 : (assignEach [.Subscript o b p] X.env).map (·.2) = [assign (.Subscript o b p) X.env] := by rfl) :
    XS X (.Assign [.Subscript o b p] e pos :: rest) D σ H := by
  refine w_cons ⟨_, ps_asg (xe (F := C1 X) ()) (pg_sub (xe (F := C1 X) ()) (xe (F := C1 X) ()) (set_dict hu) ha) hw hw2 h1, ?_⟩
  refine h _ _ _ _ _ _ _ S _ fun v P2 H2 S2 e2 r2 => ?_
  refine ho _ _ _ _ _ _ _ S2 _ fun w P3 H3 S3 e3 r3 => hb _ _ _ _ _ _ _ S3 _ fun u P4 H4 S4 e4 r4 => ?_
  obtain rfl : w = .ref z.2.2.1 := r3
  obtain rfl : u = .str "q" := r4
  obtain ⟨v0, fp, ev, ⟨g1, g2, g3, g6⟩, hk, put⟩ := S4.lendM hs1
  subst g2
  refine ⟨z.2.2.1, _, rfl, DPut.k (k := Sum.inr "q") g6 (by show 1 < sizeLine; rw [sizeLine_eq]; decide), ?_⟩
  have nd : P4 z.2.2.1 = none := (hk _ (by simp)).1
  have S5 := put P4 (upd H4 z.2.2.1 (.dK (putK [(Sum.inr "p", V.ref z.2.2.2)] (Sum.inr "q") v))) oAny (Same.refl _) (fun b o e => by
    by_cases q : b = z.2.2.1
    · subst q; rw [nd] at e; cases e
    · rw [upd_ne q]; exact S4.ld b o e) (fun b o hb e => by rw [upd_ne (by simpa using hb)]; exact e) (fun _ _ e => e) (fun b hb => by
    have : b = z.2.2.1 := by simpa using hb
    rw [this, upd_same]
    exact Option.some_ne_none _) trivial
  obtain ⟨ow', S6⟩ := S5.weak (wk_set _ i)
  rw [List.set_set] at S6
  exact k _ _ _ S6
end
/-- small data of line_pair -/
def tx1 (k : Nat) : PyData := .list [.str (toString (k : Int) : String), .str "up down"]
def bl1 (k : Nat) : PyData := .list [.tuple [.int (k : Int)], .tuple [.str "up", .str "down"]]
theorem wr_tx1 {k : Nat} (h : k < 32) : Wr (tx1 k) := by
  have key : ∀ k < 32, SeqAt.shaped (tx1 k) = true ∧ (tx1 k).depth ≤ 60 ∧ (tx1 k).showable = true ∧ (tx1 k).shown.length ≤ 1000 := by decide +kernel
  obtain ⟨h1, h2, h3, h4⟩ := key k h
  exact ⟨h1, h2, h3, Nat.le_trans h4 (by rw [sizeLine_eq]; decide)⟩
theorem wr_bl1 {k : Nat} (h : k < 32) : Wr (bl1 k) := by
  have key : ∀ k < 32, SeqAt.shaped (bl1 k) = true ∧ (bl1 k).depth ≤ 60 ∧ (bl1 k).showable = true ∧ (bl1 k).shown.length ≤ 1000 := by decide +kernel
  obtain ⟨h1, h2, h3, h4⟩ := key k h
  exact ⟨h1, h2, h3, Nat.le_trans h4 (by rw [sizeLine_eq]; decide)⟩
theorem wr_bl (b : Bool) : Wr (.bool b) := by cases b <;> exact ⟨rfl, by decide, rfl, by rw [sizeLine_eq]; decide +kernel⟩
theorem txt_n {k : Nat} (h : k < 32) : txt [.n k] = (toString (k : Int) : String) := by
  have key : ∀ k < 32, txt [.n k] = ((toString (k : Int) : String) : Str) := by decide +kernel
  exact key k h
theorem txt_ud : txt [.up, .dn] = ("up down" : Str) := by decide +kernel
theorem eqv_of {d : PyData} (w : Wr d) : PyData.eqv d d = true := SeqAt.eqv_refl _ (SeqAt.canLay_of_shaped w.sh)
theorem okLn_one {a : Nat} (h : 0 < a) (h2 : a ≤ 1000) : okLn [.n a] := ⟨by show 1 ≤ 8; decide, fun k hk => by
  have : k = a := by simpa using hk
  omega⟩
def pNum : Pr := ⟨fun _ v => ∃ n : Nat, (0 < n ∧ n ≤ 1000) ∧ v = .int (n : Int), fun _ h => h⟩
section
variable {w : World} {K : PySem.W.Frag} {mg : Str → Option Value} {base : Heap} {cs : Cs}
abbrev sFP : Stmt := top 49
abbrev nFP : List Str := ["state", "blocks", "line", "due", "k", "told", "rounds", "pair", "many", "numbers"]
theorem scFP : FnScope nFP ["state", "blocks"] (defScope sFP) := ⟨rfl, rfl, rfl, by decide +kernel, rfl, by decide +kernel, by decide +kernel⟩
abbrev spFP : Sp := spM (fun _ : Ln => oSx) (fun a => [pL (a.map pK)]) okLn (fun _ => pB true) (fun _ => oSx)
structure HlpF (w : World) (K : PySem.W.Frag) (mg : Str → Option Value) (base : Heap) (cs : Cs) : Prop where
  h : Hlp w K mg base cs
  bd : ∀ A : Around, Room 7 A → Cal PP w K mg base A "_law_breaker_due" (spBD K)
  lb : ∀ A : Around, Room 7 A → Cal PP w K mg base A "loeb_breaker" (spLB K cs.Line)
  lp : ∀ A : Around, Room 7 A → CalR PP w K mg base A "line_pair" (spLP K cs)
theorem ok_FP {f : Addr} {fd : FuncData} (F : FnP K "_law_facts_part" sFP f fd) (T : Cst K mg) (TL : LnK K cs.Line) (hf : HlpF w K mg base cs) : FnG PP w K mg base 8 f fd ["state", "blocks"] spFP := by
  refine fnMG 7 F scFP (fun _ => rfl) fun X cdv A outer s H0 Q EE hX hr hgd P0 bs va fp σ pre S kQ => ?_
  subst hX
  have hp := hf.h
  let sb : Sl := .pr (pL (bs.map pK))
  let sl : Sl := .pr (pLn K cs.Line bs)
  let sd : Sl := .pr (pBrk K (brk bs))
  refine w_asg 2 (R := pLn K cs.Line bs) S (je_make (fun _ => hp.ln _ hr) bs (ja_cons (je_v 1 fun _ => pv 1) ja_nil) pre) (fun ow σ P H S => ?_) scFP.nd
  refine w_asg 3 (R := pBrk K (brk bs)) S (je_call (fun _ => hf.bd _ hr) bs (ja_cons (je_v 1 fun _ => pv 1) ja_nil) pre) (fun ow σ P H S => ?_) scFP.nd
  refine w_for (ys := List.range 2) (r := fun i : Nat => pI (i : Int)) S (JI.is (ji_range je_i (by decide) (by decide) (hm := fun _ => T.bt.range)) rfl) (fun y => jg_name 4 fun _ => pg_name scFP.nd rfl (by first | exact .inl rfl | exact .inr rfl))
    (fun pre => [.ow (fixO oSx va fp), sb, sl, sd, .un, .un, .un, .un, .un, .un]) (Wk.refl _) (by simp) ?_ ?_ (hp := passes_of rfl)
  · intro xs' P0' H0' up pre2 t post hys ow σ P H S
    refine w_asgN 5 (O := oBrk K (brk bs)) S (jn_callN (O := fun bs => oBrk K (brk bs)) (fun _ => hf.lb _ hr) bs (ja_cons (je_v 2 fun _ => pv 2) ja_nil) pre) (fun ow σ P H S => ?_) scFP.nd
    obtain ⟨str, hsm⟩ := preSm.brk (K := K) (brk_ok pre)
    refine w_if S (q := false) (JT.is (jt_not (jt_val (q := true) (je_frz (R := pBrk K (brk bs)) (ssN := [.un, sb, sl, sd, .pr (pI (t : Nat)), .un, .un, .un, .un, .un]) 5 rfl (.drop (.keep (.keep (.keep (.keep (.drop (Wk.refl _))))))) rfl oBrk_frz
      (JE.is (je_callG (fun _ => hp.sm _ hr hgd) (⟨pBrk K (brk bs), pBrk K (brk bs), true, str, str⟩ : TwoS) (ja_cons (je_v 5 fun _ => pv 5) (ja_cons (je_v 3 fun _ => pv 3) ja_nil)) hsm rfl) (congrArg pB (by simp)))))) rfl) (fun h => absurd h (by decide)) (fun _ P H S => w_nil ?_)
    cases hb : brk bs with
    | none =>
      have S : S8 xs' P0' H0' ow σ P H [.ow (fixO oSx va fp), sb, sl, sd, .pr (pI (t : Nat)), .ow (oBrk K none), .un, .un, .un, .un] := hb ▸ S
      exact w_if S (q := false) (jt_cmp (fun _ => op_notN) (rv_notN' (R := pN) (b := false) fun P v h => by obtain rfl : v = .non := h; rfl) (je_vo 5 (fun _ => pv 5) rfl fun P H v fp h => h.1) je_n (nomark _)) (fun h => absurd h (by decide)) (fun _ P H S => w_nil (w_nil (at8 S (.keep (.keep (.keep (.keep (.drop (.drop (Wk.refl _))))))))))
    | some z =>
      obtain ⟨last, prs⟩ := z
      have S : S8 xs' P0' H0' ow σ P H [.ow (fixO oSx va fp), sb, sl, sd, .pr (pI (t : Nat)), .ow (oBrk K (some (last, prs))), .un, .un, .un, .un] := hb ▸ S
      obtain ⟨z, S⟩ := S.owTell (i := 5) (O' := oBrkA K last prs) rfl oBrk_tell
      have rd : ∀ {ss : List Sl} {p : Pos}, ss[5]? = some (.ow (oBrkA K last prs z)) → JE (C1 (cxOf (L2.CX PP w) PP w K mg base nFP "_law_facts_part" (defScope sFP) f cdv A outer s H0 EE)) (.Name "told" p) ss (pT K [pV (.ref z.2.1), pV (.ref z.2.2.1)]) ss := fun {ss p} h =>
        je_vo 5 (fun _ => pv 5) h fun P H v fp g => ⟨z.1, [.ref z.2.1, .ref z.2.2.1], g.1, g.2.2.1, .cons rfl (.cons rfl .nil), by show 2 ≤ sizeLine; rw [sizeLine_eq]; decide⟩
      refine w_if S (q := true) (jt_cmp (fun _ => op_notN) (rv_notN' (b := true) fun P v h => by rw [pT_non h]; rfl) (rd rfl) je_n (nomark _)) (fun _ P H S => ?_) (fun h => absurd h (by decide))
      exact w_brkQ 5 S (je_tup K ja_nil) (je_ixT (K := K) (j := 1) (rd rfl) je_i (fun _ _ => rfl) rfl rfl) je_s (by have := hr.un; omega) (k := fun ow P H S => w_nil (w_nil (at8 S (.keep (.keep (.keep (.keep (.drop (Wk.refl _)))))))))
  · intro ow σ P H S
    obtain ⟨st, S⟩ := S.stT (i := 0) rfl
    have hlt := take_lt st (many := 5) (by decide)
    refine w_asg 6 (R := pI ((1 + (st.take 5).1 : Nat) : Int)) S (JE.is (je_add je_i (je_callM (R := pI ((st.take 5).1 : Nat)) 0 (fun _ => hp.tk _ hr) (st, 5) (fun _ => pv 0) (ja_cons je_i ja_nil) (by show 5 < 1073741824; decide))) (congrArg (fun z => pI z) (by omega))) (fun ow σ P H S => ?_) scFP.nd
    have S := S.stH (i := 0) rfl
    obtain ⟨r, hrr, S⟩ : ∃ r : Nat, (1 ≤ r ∧ r ≤ 5) ∧ S8 fp P0 H0 ow σ P H [.ow (fixO oSx va fp), sb, sl, sd, .un, .un, .pr (pI (r : Nat)), .un, .un, .un] := ⟨1 + (st.take 5).1, by omega, S⟩
    let so : Sl := .ow (fixO oSx va fp)
    let sr : Sl := .pr (pI (r : Nat))
    let pp : Pr := pT K [pLn K cs.Line [.n (2 ^ r - 1)], pLn K cs.Line [.up, .dn]]
    have h2r : 2 ≤ 2 ^ r := by
      have := Nat.pow_le_pow_right (show 0 < 2 by decide) hrr.1
      omega
    have hr32 : 2 ^ r ≤ 32 := by
      have : 2 ^ r ≤ 2 ^ 5 := Nat.pow_le_pow_right (by decide) hrr.2
      have e : 2 ^ 5 = 32 := rfl
      omega
    refine w_asg 7 (R := pp) S (je_call (pre := fun a : Int => a.natAbs ≤ 16000000 ∧ erCR cs (a, 1) = none) (fun _ => (hf.lp _ hr).cal fun a h => h) (r : Int) (ja_cons (je_v 6 fun _ => pv 6) ja_nil) ⟨by omega, by unfold erCR; rw [if_neg (by dsimp only; omega)]⟩ rfl (by show pT K _ = pp; rw [Int.toNat_natCast])) (fun ow σ P H S => ?_) scFP.nd
    refine w_if S (q := false) (jt_w (jw_or (q := false) (JT.is (jt_not (jt_val (q := true) (je_isi (K := K) (t := .type "tuple") (T := "tuple") (je_v 7 fun _ => pv 7) (fun P H v l h => by obtain ⟨a, xs, rfl, h2, _, _⟩ := h; exact ty_sqT (h2.sq l)) rfl (fun _ => T.bt.isinstance) (fun _ => T.bt.tuple) (by decide +kernel)))) rfl)
      fun _ => jw_or1 (JT.is (jt_cmp (fun _ => op_ne) rv_neI (je_lenT (K := K) (je_v 7 fun _ => pv 7) (fun _ => T.bt.len)) je_i (nomark _)) rfl))) (fun h => absurd h (by decide)) (fun _ P H S => w_nil ?_)
    refine w_asg 8 (R := pI ((2 ^ r - 1 : Nat) : Int)) S (JE.is (je_sub (je_shl (i := 1) (j := (r : Int)) je_i (je_v 6 fun _ => pv 6) ⟨by omega, by omega, by decide⟩) je_i) (congrArg (fun z => pI z) (shl_nat r))) (fun ow σ P H S => ?_) scFP.nd
    let sm : Sl := .pr (pI ((2 ^ r - 1 : Nat) : Int))
    have hm32 : 2 ^ r - 1 < 32 := by omega
    have fst : ∀ {ss : List Sl} {p1 p2 : Pos} {k : Nat}, ss[7]? = some (.pr pp) → JE (C1 (cxOf (L2.CX PP w) PP w K mg base nFP "_law_facts_part" (defScope sFP) f cdv A outer s H0 EE)) (.Subscript (.Name "pair" p1) (.Constant (.int 0) k p2) p2) ss (pLn K cs.Line [.n (2 ^ r - 1)]) ss := fun {ss p1 p2 k} h => je_ixT (K := K) (j := 0) (je_v 7 (fun _ => pv 7) h) je_i (fun _ _ => rfl) rfl rfl
    refine w_if S (q := false) (JT.is (jt_not (jt_val (je_callG (fun _ => hp.sm _ hr hgd) (⟨pL [pS (txt [.n (2 ^ r - 1)]), pS (txt [.up, .dn])], pL [pS (toString ((2 ^ r - 1 : Nat) : Int) : String), pS "up down"], _, _, _⟩ : TwoS) (ja_cons (JF.je (jf_lst (ja_cons (je_fld (K := K) (je_ixT (K := K) (j := 0) (je_v 7 fun _ => pv 7) je_i (fun _ _ => rfl) rfl rfl) TL.c TL.tx rfl) (ja_cons (je_fld (K := K) (je_ixT (K := K) (j := 1) (je_v 7 fun _ => pv 7) je_i (fun _ _ => rfl) rfl rfl) TL.c TL.tx rfl) ja_nil))))
      (ja_cons (JF.je (jf_lst (ja_cons (je_strI (je_v 8 fun _ => pv 8) (log_small (by omega)) (fun _ => T.bt.str)) (ja_cons je_s ja_nil)))) ja_nil)) (preSm.of (d := tx1 (2 ^ r - 1)) (e := tx1 (2 ^ r - 1)) (by rw [txt_n hm32, txt_ud]; exact pd_l (pdl_cons pd_s (pdl_cons pd_s pdl_nil))) (pd_l (pdl_cons pd_s (pdl_cons pd_s pdl_nil))) (wr_tx1 hm32) (wr_tx1 hm32)) rfl))) (by rw [eqv_of (wr_tx1 hm32)]; simp)) (fun h => absurd h (by decide)) (fun _ P H S => w_nil ?_)
    refine w_if S (q := false) (JT.is (jt_not (jt_val (je_callG (fun _ => hp.sm _ hr hgd) (⟨pL [pBs K [.n (2 ^ r - 1)], pBs K [.up, .dn]], pL [pT K [pI ((2 ^ r - 1 : Nat) : Int)], pT K [pS "up", pS "down"]], _, _, _⟩ : TwoS) (ja_cons (JF.je (jf_lst (ja_cons (je_fld (K := K) (je_ixT (K := K) (j := 0) (je_v 7 fun _ => pv 7) je_i (fun _ _ => rfl) rfl rfl) TL.c TL.bl rfl) (ja_cons (je_fld (K := K) (je_ixT (K := K) (j := 1) (je_v 7 fun _ => pv 7) je_i (fun _ _ => rfl) rfl rfl) TL.c TL.bl rfl) ja_nil))))
      (ja_cons (JF.je (jf_lst (ja_cons (je_tup K (ja_cons (je_v 8 fun _ => pv 8) ja_nil)) (ja_cons (je_tup K (ja_cons je_s (ja_cons je_s ja_nil))) ja_nil)))) ja_nil)) (preSm.of (d := bl1 (2 ^ r - 1)) (e := bl1 (2 ^ r - 1)) (pd_l (pdl_cons (pd_t (pdl_cons pd_i pdl_nil)) (pdl_cons (pd_t (pdl_cons pd_s (pdl_cons pd_s pdl_nil))) pdl_nil))) (pd_l (pdl_cons (pd_t (pdl_cons pd_i pdl_nil)) (pdl_cons (pd_t (pdl_cons pd_s (pdl_cons pd_s pdl_nil))) pdl_nil))) (wr_bl1 hm32) (wr_bl1 hm32)) rfl))) (by rw [eqv_of (wr_bl1 hm32)]; simp)) (fun h => absurd h (by decide)) (fun _ P H S => w_nil ?_)
    have cE : ∀ {x y : Ln}, erCR cs ((r : Int), 0) = none := fun {x y} => by unfold erCR; rw [if_neg (by dsimp only; omega)]
    have al := fun (A : Around) (h : Room 7 A) => (hp.al A h).cal (pre' := fun a => preLA a ∧ erCR cs (a.2.2, 0) = none) fun a h => h
    have pLA : ∀ {x y : Ln}, preBA x y r → preLA (x, y, (r : Int)) := fun {x y} h => ⟨by show (r : Int).natAbs ≤ 16000000; omega, fun _ _ => by show preBA x y (r : Int).toNat; rw [Int.toNat_natCast]; exact h⟩
    refine w_if S (q := false) (JT.is (jt_cmp (fun _ => op_isnot_bl) rv_isnotB (je_call (R := pB true) (fun _ => al _ hr) (([.n (2 ^ r - 1)], [.up, .dn], (r : Int)) : Ln × Ln × Int) (ja_cons (je_ixT (K := K) (j := 0) (je_v 7 fun _ => pv 7) je_i (fun _ _ => rfl) rfl rfl) (ja_cons (je_ixT (K := K) (j := 1) (je_v 7 fun _ => pv 7) je_i (fun _ _ => rfl) rfl rfl) (ja_cons (je_v 6 fun _ => pv 6) ja_nil))) ⟨pLA (preBA_ud hrr.2 (by omega) (by omega)), cE (x := []) (y := [])⟩ rfl (by show pB (eB (r : Int).toNat _ _) = _; rw [Int.toNat_natCast, eB_ud (by omega)])) je_bl (nomark _)) rfl) (fun h => absurd h (by decide)) (fun _ P H S => w_nil ?_)
    refine w_asgF 9 S (jf_lst ja_nil) (fun ow σ P H S => ?_) scFP.nd
    refine w_for (ys := List.range 2) (r := fun i : Nat => pI (i : Int)) S (JI.is (ji_range je_i (by decide) (by decide) (hm := fun _ => T.bt.range)) rfl) (fun y => jg_name 4 fun _ => pg_name scFP.nd rfl (by first | exact .inl rfl | exact .inr rfl))
      (fun pre => [so, sb, sl, sd, .un, .un, sr, .pr pp, sm, .ow (oL (pre.map fun _ => pNum))]) (Wk.refl _) (by simp) ?_ ?_ (hp := passes_of rfl)
    · intro xs' P0' H0' up pre2 t post hys ow σ P H S
      obtain ⟨st, S⟩ := S.stT (i := 0) rfl
      have l1 := take_lt st (many := 4) (by decide)
      have l2 := take_lt (st.take 4).2 (many := 9) (by decide)
      have hpl : pre2.length ≤ 2 := by
        have := congrArg List.length hys
        rw [List.length_range, List.length_append, List.length_cons] at this
        omega
      have hmul : (st.take 4).1 * (1 + ((st.take 4).2.take 9).1) ≤ 3 * 9 := Nat.mul_le_mul (by omega) (by omega)
      generalize hgm : (st.take 4).1 * (1 + ((st.take 4).2.take 9).1) = gm at hmul
      refine w_app 9 (R := pNum) (Rs := pre2.map fun _ => pNum) (ss1 := [.ow (fixO (oSt ((st.take 4).2.take 9).2) va fp), sb, sl, sd, .pr (pI (t : Nat)), .un, sr, .pr pp, sm, .ow (oL (pre2.map fun _ => pNum))]) S (fun _ => pv 9) (JE.to (je_max2 (je_add (je_sub (je_v 8 fun _ => pv 8) je_i)
        (je_mul (je_callM (R := pI ((st.take 4).1 : Nat)) 0 (fun _ => hp.tk _ hr) (st, 4) (fun _ => pv 0) (ja_cons je_i ja_nil) (by show 4 < 1073741824; decide)) (je_add je_i (je_callM (R := pI (((st.take 4).2.take 9).1 : Nat)) 0 (fun _ => hp.tk _ hr) ((st.take 4).2, 9) (fun _ => pv 0) (ja_cons je_i ja_nil) (by show 9 < 1073741824; decide))) (.inl ⟨by omega, by omega⟩))) je_i (fun _ => T.bt.max))
        fun P v h => ⟨max (2 ^ r - 1 - 1 + gm) 1, by omega, by
          obtain rfl : v = _ := h
          congr 1
          have e : (((st.take 4).1 : Nat) : Int) * (1 + (((st.take 4).2.take 9).1 : Nat)) = (gm : Nat) := by rw [← hgm]; push_cast; rfl
          rw [e]
          omega⟩) rfl rfl (by rw [List.length_map, sizeLine_eq]; omega) (fun ow P H S => w_nil ?_)
      have S := S.stH (i := 0) rfl
      rw [List.map_append]
      exact at8 S (.keep (.keep (.keep (.keep (.drop (Wk.refl _))))))
    · intro ow σ P H S
      obtain ⟨ow, P, S, _, _⟩ := S.still (i := 9) rfl (.inr ⟨0, _, by decide, rfl, fun _ _ _ _ h a ha => by rw [h.2.1]; exact ha⟩)
      obtain ⟨⟨⟨a, b⟩, ha, hb⟩, S⟩ := S.prTell (i := 9) (α := { q : Nat × Nat // (0 < q.1 ∧ q.1 ≤ 1000) ∧ 0 < q.2 ∧ q.2 ≤ 1000 }) (R' := fun q => pL ([(q.1.1 : Int), (q.1.2 : Int)].map fun n => pI n)) rfl fun P v ⟨a, xs, h1, h2, h3⟩ => by
        obtain ⟨u1, u2, e, ⟨n1, g1, e1⟩, ⟨n2, g2, e2⟩⟩ := pl2 (R := pNum) (R' := pNum) h3
        exact ⟨⟨(n1, n2), g1, g2⟩, a, xs, h1, h2, by rw [e, e1, e2]; exact .cons rfl (.cons rfl .nil)⟩
      dsimp only at S ha hb
      have nb : ∀ {ss : List Sl} {p1 p2 p3 : Pos} {k : Nat}, ss[9]? = some (.pr (pL ([(a : Int), (b : Int)].map fun n => pI n))) → JE (C1 (cxOf (L2.CX PP w) PP w K mg base nFP "_law_facts_part" (defScope sFP) f cdv A outer s H0 EE)) (.Subscript (.Name "numbers" p1) (.Constant (.int 0) k p2) p3) ss (pI (a : Nat)) ss := fun {ss p1 p2 p3 k} h => je_ixL (K := K) (j := 0) (je_v 9 (fun _ => pv 9) h) je_i (fun _ _ => rfl) rfl rfl
      have nc : ∀ {ss : List Sl} {p1 p2 p3 : Pos} {k : Nat}, ss[9]? = some (.pr (pL ([(a : Int), (b : Int)].map fun n => pI n))) → JE (C1 (cxOf (L2.CX PP w) PP w K mg base nFP "_law_facts_part" (defScope sFP) f cdv A outer s H0 EE)) (.Subscript (.Name "numbers" p1) (.Constant (.int 1) k p2) p3) ss (pI (b : Nat)) ss := fun {ss p1 p2 p3 k} h => je_ixL (K := K) (j := 1) (je_v 9 (fun _ => pv 9) h) je_i (fun _ _ => rfl) rfl rfl
      have hmn : (((min a b : Nat) : Nat) : Int) ∈ [(a : Int), (b : Int)] := by
        rcases Nat.le_total a b with h | h
        · rw [Nat.min_eq_left h]; simp
        · rw [Nat.min_eq_right h]; simp
      refine w_asg 3 (R := pB (eB r [.n a] [.n b])) S (JE.is (je_or (JE.is (je_cmp (fun _ => op_eq) rv_eqI (nb rfl) (nc rfl) (nomark _)) (congrArg pB (show decide ((a : Int) = (b : Int)) = decide (a = b) from decide_eq_decide.mpr (by omega)))) fun _ => je_one (JE.is (je_cmp (fun _ => op_ge) rv_I0 (je_minL (K := K) (ns := [(a : Int), (b : Int)]) (m := ((min a b : Nat) : Int)) (je_v 9 fun _ => pv 9) hmn (fun y hy => by simp at hy; omega) (fun _ => T.bt.min)) (je_v 8 fun _ => pv 8) (nomark _)) (congrArg pB (show decide (((2 ^ r - 1 : Nat) : Int) ≤ ((min a b : Nat) : Int)) = decide (2 ^ r - 1 ≤ min a b) from decide_eq_decide.mpr (by omega))))) (by rw [eB_nums ha.1 hb.1])) (fun ow σ P H S => ?_) scFP.nd
      refine w_asg 5 (R := pB (eB r [.n a] [.n b])) S (je_call (fun _ => al _ hr) (([.n a], [.n b], (r : Int)) : Ln × Ln × Int) (ja_cons (je_make (fun _ => hp.ln _ hr) ([.n a] : Ln) (ja_cons (JF.je (jf_lst (ja_cons (nb rfl) ja_nil))) ja_nil) (okLn_one ha.1 ha.2))
        (ja_cons (je_make (fun _ => hp.ln _ hr) ([.n b] : Ln) (ja_cons (JF.je (jf_lst (ja_cons (nc rfl) ja_nil))) ja_nil) (okLn_one hb.1 hb.2)) (ja_cons (je_v 6 fun _ => pv 6) ja_nil))) ⟨pLA (preBA_nums hrr.2 ha.1 ha.2 hb.1 hb.2), cE (x := []) (y := [])⟩ rfl (by show pB (eB (r : Int).toNat _ _) = _; rw [Int.toNat_natCast])) (fun ow σ P H S => ?_) scFP.nd
      exact w_ret S (JE.is (je_callG (fun _ => hp.sm _ hr hgd) (⟨pB (eB r [.n a] [.n b]), pB (eB r [.n a] [.n b]), _, _, _⟩ : TwoS) (ja_cons (je_v 5 fun _ => pv 5) (ja_cons (je_v 3 fun _ => pv 3) ja_nil)) (preSm.of pd_b pd_b (wr_bl _) (wr_bl _)) rfl) (congrArg pB (by rw [eqv_of (wr_bl _)]; simp))) fun v P H S r1 => kQ v _ _ P H _ S r1
end
end K74
/-! _law_cells -/
namespace Ly
open PySem PySem.Spec PyProof.Rows L2
/-- a list that may be an argument or of the written part -/
def pSq (K : PySem.W.Frag) (zs : List V) : Pr := ⟨fun P v => ∃ a, v = .ref a ∧ SqL K P a zs, fun e ⟨a, h1, h2⟩ => ⟨a, h1, by
  rcases h2 with (h | ⟨o, h⟩) | h
  · exact .inl (.inl (e _ _ h))
  · exact .inl (.inr ⟨o, e _ _ h⟩)
  · exact .inr h⟩⟩
theorem sqL_ld {K : PySem.W.Frag} {P H : Hp} {a : Addr} {zs : List V} (l : Ld P H) (h : SqL K P a zs) : SqL K H a zs := by
  rcases h with (h | ⟨o, h⟩) | h
  · exact .inl (l.rd h)
  · rcases l _ _ h with q | ⟨q, _⟩
    · exact .inl (.inr ⟨o, q⟩)
    · exact absurd q (by intro z; exact z)
  · exact .inr h
theorem cutV_to (zs : List V) (n : Nat) : cutV zs none (some (n : Int)) = zs.take n := by
  unfold cutV
  rw [HT.sIx_nat]
  show (zs.drop 0).take (min n zs.length - 0) = _
  rw [List.drop_zero, Nat.sub_zero]
  by_cases h : n ≤ zs.length
  · rw [Nat.min_eq_left h]
  · rw [Nat.min_eq_right (by omega), List.take_of_length_le (Nat.le_refl _), List.take_of_length_le (by omega)]
section
variable {ι : Type} {F : ι → Cx} {K : PySem.W.Frag} {ss ss1 : List Sl} {e : Expr} {pos p2 p3 : Pos} {j : Nat}
theorem jf_slQ {is : List Int} {n : Nat} (ha : JE F e ss (pSq K (is.map V.int)) ss1) (hK : ∀ i, (F i).K = K := by intro _; rfl) :
    JF F (.Subscript e (.Slice none (some (.Constant (.int (n : Int)) j p3)) none p2) pos) ss ((is.take n).map fun i => pI i) ss1 := fun xs P0 H0 ow σ P H S Q k =>
  ⟨tSl (rSlL K) (XE F e) (XO F none) (XO F (some (.Constant (.int (n : Int)) j p3))), fun i => pe_slice (hK i ▸ sl_list) (xe i) (xo i) (xo i), ha _ _ _ _ _ _ _ S.here _ fun v P2 H2 S2 e2 r2 => jo_no (F := F) (ss := ss1) _ _ _ _ _ _ _ S2 _ fun P3 H3 S3 e3 => jo_e (je_i (F := F) (ss := ss1)) _ _ _ _ _ _ _ S3 _ fun P4 H4 S4 e4 => by
    obtain ⟨a, rfl, h2⟩ := (pSq K _).up (e3.trans e4) r2
    refine ⟨a, _, rfl, sqL_ld S4.ld h2, fun t ht => ?_⟩
    rw [cutV_to]
    have g := Gr.junk S4.ld ht (.lst ((is.map V.int).take n))
    refine k t _ P4 _ (S.back (S4.grow g) fun a ha => .inl ha) (e2.trans (e3.trans e4)) (S4.gone ht) (S4.ld.none ht) upd_same ?_
    rw [← List.map_take]
    generalize is.take n = l
    induction l with
    | nil => exact .nil
    | cons i l ih => exact .cons rfl ih⟩
end
end Ly
namespace K74
open PySem PySem.Spec PyProof.Rows L2 Ly M74
section
variable {ι : Type} {F : ι → Cx} {K : PySem.W.Frag} {ss ss1 : List Sl} {e : Expr} {pos p1 p2 : Pos} {j k : Nat} {cells : List Nat}
theorem stC_of {P : Hp} : ∀ {cells : List Nat} {vs : List V}, PL P (cells.map fun n : Nat => pI (n : Int)) vs → vs = stC ⟨cells, 0, 0⟩
  | [], _, .nil => rfl
  | c :: cells, _, .cons r t => by
    have h := stC_of t
    obtain rfl := r
    rw [h]
    rfl
theorem jn_st (h : JF F e ss (cells.map fun n : Nat => pI (n : Int)) ss1) (hs1 : ∀ i, starEach [e, .Constant (.int 0) j p1, .Constant (.int 0) k p2] (F i).env = (false, eval e (F i).env) :: starEach [.Constant (.int 0) j p1, .Constant (.int 0) k p2] (F i).env := by intro _; rfl)
    (hs2 : ∀ i, starEach [.Constant (.int 0) j p1, .Constant (.int 0) k p2] (F i).env = (false, eval (.Constant (.int 0) j p1) (F i).env) :: starEach [.Constant (.int 0) k p2] (F i).env := by intro _; rfl)
    (hs3 : ∀ i, starEach [.Constant (.int 0) k p2] (F i).env = (false, eval (.Constant (.int 0) k p2) (F i).env) :: starEach [] (F i).env := by intro _; rfl) :
    JN F (.List [e, .Constant (.int 0) j p1, .Constant (.int 0) k p2] pos) ss (oSt ⟨cells, 0, 0⟩) ss1 := fun xs P0 H0 ow σ P H S Q kQ => by
  refine ⟨_, fun i => pe_lst (pa_cons (xe (F := F) (e := e) i) (pa_cons pe_int (pa_cons pe_int pa_nil (hs3 i)) (hs2 i)) (hs1 i)), ?_⟩
  refine h _ _ _ _ _ _ _ S.here _ fun l vs P1 H1 S1 e1 nl npl hl r1 => ?_
  refine ⟨by show 3 ≤ sizeLine; rw [sizeLine_eq]; decide, fun p hp => ?_⟩
  have g := Gr.junk S1.ld hp (.lst [.ref l, .int 0, .int 0])
  have S2 := S1.grow g
  have hlp : l ≠ p := fun z => by rw [z, hp] at hl; cases hl
  have evs : vs = stC ⟨cells, 0, 0⟩ := stC_of r1
  refine kQ (.ref p) [p, l] P1 _ (S.back S2 fun a ha => .inl ha) e1 (fun b hb => ?_) ⟨p, l, rfl, rfl, fun z => hlp z.symm, upd_same, by rw [upd_ne hlp, hl, evs]⟩
  have hb : b = p ∨ b = l := by simpa using hb
  rcases hb with rfl | rfl
  · exact ⟨S1.gone hp, S1.ld.none hp, by rw [upd_same]; exact Option.some_ne_none _⟩
  · exact ⟨nl, npl, by rw [upd_ne hlp, hl]; exact Option.some_ne_none _⟩
end
section
variable {Pg : Program} {w : World} {K : PySem.W.Frag} {mg : Str → Option Value} {base : Heap}
abbrev sCl : Stmt := top 32
abbrev nCl : List Str := ["script", "cell"]
theorem scCl : FnScope nCl ["script"] (defScope sCl) := ⟨rfl, rfl, rfl, by decide +kernel, rfl, by decide +kernel, by decide +kernel⟩
abbrev spCl (K : PySem.W.Frag) : Sp := spN (fun is : List Int => [pSq K (is.map V.int)]) (fun _ => True) (fun is => oSt ⟨(is.take 63).map Int.natAbs, 0, 0⟩)
theorem ok_Cl {f : Addr} {fd : FuncData} (F : FnP K "_law_cells" sCl f fd) (T : Cst K mg) : FnOk Pg w K mg base CX0 1 f fd ["script"] (spCl K) := by
  refine fnN 0 F scCl (fun _ => rfl) fun cdv A outer s H0 Q E hr P0 is σ _ S kQ => ?_
  refine w_retN (ss1 := [.pr (pSq K (is.map V.int)), .un]) S (jn_st (cells := (is.take 63).map Int.natAbs) ?_) fun v fp P2 H2 S2 fr ok => kQ v fp P2 H2 S2.gr (fun b hb => ?_) ok
  · have e : ((is.take 63).map Int.natAbs).map (fun n : Nat => pI (n : Int)) = ((is.take 63).filter fun _ => true).map fun i : Int => pI (i.natAbs : Int) := by
      rw [List.map_map, List.filter_eq_self.mpr (fun _ _ => rfl)]
      rfl
    rw [e]
    exact jf_lc (α := Int) (ys := is.take 63) (r := fun i => pI i) [("cell", 1)] [.pr (pSq K (is.map V.int)), .un] (ji_list (K := K) (JF.je (jf_slQ (n := 63) (je_v 0 fun _ => pv 0)))) (fun _ => blkOk_by (N := nCl) (sc := defScope sCl) (by decide +kernel)) (Wk.refl _) rfl
      (fun y => jg_name 1 fun _ => pg_name scCl.nd rfl (by first | exact .inl rfl | exact .inr rfl)) (by simp) (by simp) (fun _ => true) (fun i : Int => pI (i.natAbs : Int)) (fun _ _ => jts_nil) (fun i _ _ => je_abs (je_int (je_v 1 fun _ => pv 1) (fun _ => T.bt.int)) (fun _ => T.bt.abs)) (le_line (by rw [List.length_take]; omega)) (fun _ => scCl.nd)
  · obtain ⟨f1, f2⟩ := fr b hb
    exact ⟨f1, f2⟩
end
end K74
/-! law -/
namespace K74
open PySem PySem.Spec PyProof.Rows L2 Ly M74
section
variable {ι : Type} {F : ι → Cx} {ss ss1 ss2 : List Sl} {R : Pr} {Rs : List Pr} {x : Str} {e : Expr} {es : List Expr} {pos p : Pos} {O0 : Ow}
theorem je_callMGe {α : Type} {O O' : α → Ow} {ar : α → List Pr} {pre : α → Prop} {res : α → Pr} (va : V) (fpa : List Addr) (i : Nat) (c : ∀ j, CalGX (F j) x (spM O ar pre res O')) (a : α) (ho : ∀ j, PE (F j) e (tVar i)) (ha : JA F es ss Rs ss1) (hp : pre a) (hs0 : ss[i]? = some (.ow O0) := by rfl) (hs1 : ss1[i]? = some (.ow (fixO (O a) va fpa)) := by rfl) (h2 : ss1.set i (.ow (fixO (O' a) va fpa)) = ss2 := by rfl)
    (hA : ar a = Rs := by rfl) (hR : res a = R := by rfl) (hg : ∀ i, Gl (F i) x := by intro _; rfl) (hdb : (x == ("__debug__" : Str)) = false := by decide) (he : ∀ i, starEach (e :: es) (F i).env = (false, eval e (F i).env) :: starEach es (F i).env := by intro _; rfl)
    (hpl : ∀ i, (backTo pos (starEach es (F i).env)).any (·.1) = false := by intro _; rfl) : JE F (.Call (.Name x p) (e :: es) [] pos) ss R ss2 := h2 ▸ je_callMG i c a ho ha hp hs0 hs1 hA hR hg hdb he hpl
end
def pGd (m : Nat) : Pr := ⟨fun P v => ∃ y, Gd m y ∧ (pL (y.map pK)).p P v, fun e ⟨y, h, q⟩ => ⟨y, h, Pr.up _ e q⟩⟩
section
variable {w : World} {K : PySem.W.Frag} {mg : Str → Option Value} {base : Heap} {cs : Cs}
abbrev sLaw : Stmt := top 50
abbrev nLaw : List Str := ["script", "state", "rounds", "great", "most", "first", "second", "lines", "many", "types", "alike"]
theorem scLaw : FnScope nLaw ["script"] (defScope sLaw) := ⟨rfl, rfl, rfl, by decide +kernel, rfl, by decide +kernel, by decide +kernel⟩
abbrev spLaw (K : PySem.W.Frag) : Sp := spX (fun is : List Int => [pSq K (is.map V.int)]) (fun _ => True) (fun _ => pB true) (fun _ => none)
structure HlpL (w : World) (K : PySem.W.Frag) (mg : Str → Option Value) (base : Heap) (cs : Cs) : Prop where
  h : Hlp w K mg base cs
  cl : ∀ A : Around, Room 7 A → Cal PP w K mg base A "_law_cells" (spCl K)
  db : ∀ A : Around, Room 7 A → Cal PP w K mg base A "_law_draw_blocks" spDB
  lk : ∀ A : Around, Room 7 A → Cal PP w K mg base A "_law_like" spLk
  ft : ∀ A : Around, Room 7 A → Cal PP w K mg base A "_law_find_types" spFT
  pl : ∀ A : Around, Room 8 A → A.guards = some [] → CalG PP w K mg base A "_law_play" spPl
  rf : ∀ A : Around, Room 9 A → A.guards = some [] → CalG PP w K mg base A "_law_refused" spRf
  fp : ∀ A : Around, Room 8 A → A.guards = some [] → CalG PP w K mg base A "_law_facts_part" spFP
theorem eB_symm (r : Nat) (x y : Ln) : eB r y x = eB r x y := by
  rw [Bool.eq_iff_iff, eB_iff, eB_iff]
  exact ⟨fun h => h.symm, fun h => h.symm⟩
theorem ok_Law {f : Addr} {fd : FuncData} (F : FnP K "law" sLaw f fd) (T : Cst K mg) (hl : HlpL w K mg base cs) : FnG PP w K mg base 11 f fd ["script"] (spLaw K) := by
  refine fnXG 10 F scLaw (fun _ => rfl) fun X cdv A outer s H0 Q EE hX hr hgd tk P0 is σ _ S kQ kE => ?_
  subst hX
  have hp := hl.h
  have hr7 : Room 7 (cxOf (L2.CX PP w) PP w K mg base nLaw "law" (defScope sLaw) f cdv A outer s H0 EE).A := hr.mono (by decide)
  have hr8 : Room 8 (cxOf (L2.CX PP w) PP w K mg base nLaw "law" (defScope sLaw) f cdv A outer s H0 EE).A := hr.mono (by decide)
  have hr9 : Room 9 (cxOf (L2.CX PP w) PP w K mg base nLaw "law" (defScope sLaw) f cdv A outer s H0 EE).A := hr.mono (by decide)
  refine w_asgN 1 (O := oSt ⟨(is.take 63).map Int.natAbs, 0, 0⟩) S (jn_callN (O := fun is : List Int => oSt ⟨(is.take 63).map Int.natAbs, 0, 0⟩) (fun _ => hl.cl _ hr7) is (ja_cons (je_v 0 fun _ => pv 0) ja_nil) trivial) (fun ow σ P H S => ?_) scLaw.nd
  obtain ⟨va, fp, S⟩ := S.owFix (i := 1) rfl
  let sc : Sl := .pr (pSq K (is.map V.int))
  let so : Sl := .ow (fixO oSx va fp)
  have S : S8 [] P0 H0 ow σ P H [sc, .ow (fixO (oSt ⟨(is.take 63).map Int.natAbs, 0, 0⟩) va fp), .un, .un, .un, .un, .un, .un, .un, .un, .un] := S
  generalize (⟨(is.take 63).map Int.natAbs, 0, 0⟩ : Ste) = st at S
  -- the draws
  have t0 := take_lt st (many := 4) (by decide)
  refine w_asg 2 (R := pI ((st.take 4).1 : Nat)) S (je_callM 1 (fun _ => hp.tk _ hr7) (st, 4) (fun _ => pv 1) (ja_cons je_i ja_nil) (by show 4 < 1073741824; decide)) (fun ow σ P H S => ?_) scLaw.nd
  obtain ⟨r0, hr0, st, S⟩ : ∃ r0 : Nat, r0 < 4 ∧ ∃ st : Ste, S8 [] P0 H0 ow σ P H [sc, .ow (fixO (oSt st) va fp), .pr (pI (r0 : Nat)), .un, .un, .un, .un, .un, .un, .un, .un] := ⟨_, t0, _, S⟩
  refine w_asg 3 (R := pI ((st.take 8).1 : Nat)) S (je_callM 1 (fun _ => hp.tk _ hr7) (st, 8) (fun _ => pv 1) (ja_cons je_i ja_nil) (by show 8 < 1073741824; decide)) (fun ow σ P H S => ?_) scLaw.nd
  obtain ⟨g, st, S⟩ : ∃ g : Nat, ∃ st : Ste, S8 [] P0 H0 ow σ P H [sc, .ow (fixO (oSt st) va fp), .pr (pI (r0 : Nat)), .pr (pI (g : Nat)), .un, .un, .un, .un, .un, .un, .un] := ⟨_, _, S⟩
  refine w_ifJ [sc, .ow (fixO (oSt st) va fp), .pr (pLt 5), .pr (pI (g : Nat)), .un, .un, .un, .un, .un, .un, .un] S (jt_cmp (fun _ => op_eq) rv_eqI (je_v 3 fun _ => pv 3) je_i (nomark _)) (fun _ P H S => ?_) (fun _ P H S => w_nil ?_) fun ow σ P H S => ?_
  · exact w_asg 2 (R := pLt 5) S (JE.to je_i fun P v h => ⟨4, by decide, h⟩) (fun ow σ P H S => w_nil ⟨_, _, S⟩) scLaw.nd
  · exact ⟨_, _, S.prTo (i := 2) (R' := pLt 5) rfl fun P v h => ⟨r0, by omega, h⟩⟩
  obtain ⟨⟨r, hr5⟩, S⟩ := S.prTell (i := 2) (α := { n : Nat // n < 5 }) (R' := fun n => pI (n.1 : Nat)) rfl fun P v ⟨n, h, q⟩ => ⟨⟨n, h⟩, q⟩
  dsimp only at S
  let sr : Sl := .pr (pI (r : Nat))
  let sg : Sl := .pr (pI (g : Nat))
  obtain ⟨most, hm, hmost⟩ : ∃ most : Nat, (2 ≤ most ∧ most ≤ 1000) ∧ most = if g = 6 then 1000 else 9 := ⟨_, by split <;> omega, rfl⟩
  refine w_asg 4 (R := pI (most : Nat)) S (je_if (q := decide (g = 6)) (JT.is (jt_cmp (fun _ => op_eq) rv_eqI (je_v 3 fun _ => pv 3) je_i (nomark _)) (decide_eq_decide.mpr (by omega))) (fun h => ?_) (fun h => ?_)) (fun ow σ P H S => ?_) scLaw.nd
  · have h : g = 6 := of_decide_eq_true h
    rw [hmost, if_pos h]
    exact je_i
  · have h : ¬ g = 6 := of_decide_eq_false h
    rw [hmost, if_neg h]
    exact je_i
  let sm : Sl := .pr (pI (most : Nat))
  have d0 := drawBs_dr (s := st) hm.1 hm.2
  refine w_asg 5 (R := pL ((drawBs most st).1.map pK)) S (je_callM 1 (fun _ => hl.db _ hr7) (st, most) (fun _ => pv 1) (ja_cons (je_v 4 fun _ => pv 4) ja_nil) ⟨hm.1, by show most < 1073741824; omega⟩) (fun ow σ P H S => ?_) scLaw.nd
  obtain ⟨x, dx, st, S⟩ : ∃ x : Ln, Dr 3 6 x ∧ ∃ st : Ste, S8 [] P0 H0 ow σ P H [sc, .ow (fixO (oSt st) va fp), sr, sg, sm, .pr (pL (x.map pK)), .un, .un, .un, .un, .un] := ⟨_, d0, _, S⟩
  let sx : Sl := .pr (pL (x.map pK))
  have gx : Gd 6 x := dx.gd (by decide)
  have d1 : Dr (2 * x.length) (2 * x.length) (lkBs (2 ^ r - 1) x st).1 := lkBs_dr (by
    have h2 : 2 ^ r ≤ 2 ^ 4 := Nat.pow_le_pow_right (by decide) (by omega)
    have e4 : 2 ^ 4 = 16 := rfl
    omega) fun k hk => ⟨dx.pos k hk, dx.num k hk⟩
  refine w_asg 6 (R := pL ((lkBs (2 ^ r - 1) x st).1.map pK)) S (je_callM 1 (fun _ => hl.lk _ hr7) (⟨st, x, r⟩ : LkA) (fun _ => pv 1) (ja_cons (je_v 5 fun _ => pv 5) (ja_cons (je_v 2 fun _ => pv 2) ja_nil)) ⟨by have := dx.len; show x.length ≤ 10; omega, by show r ≤ 4; omega⟩) (fun ow σ P H S => ?_) scLaw.nd
  obtain ⟨y0, gy0, st, S⟩ : ∃ y : Ln, Gd 6 y ∧ ∃ st : Ste, S8 [] P0 H0 ow σ P H [sc, .ow (fixO (oSt st) va fp), sr, sg, sm, sx, .pr (pL (y.map pK)), .un, .un, .un, .un] := ⟨_, (d1.mono (by have := dx.len; omega : 2 * x.length ≤ 6) (by have := dx.len; omega : 2 * x.length ≤ 6)).gd (by decide), _, S⟩
  refine w_ifJ [sc, so, sr, sg, sm, sx, .pr (pGd 6), .un, .un, .un, .un] (ss1 := [sc, .ow (fixO (oSt (st.take 4).2) va fp), sr, sg, sm, sx, .pr (pL (y0.map pK)), .un, .un, .un, .un]) (q := decide (((st.take 4).1 : Int) = 0)) S (jt_cmp (fun _ => op_eq) rv_eqI (je_callM (R := pI ((st.take 4).1 : Nat)) 1 (fun _ => hp.tk _ hr7) (st, 4) (fun _ => pv 1) (ja_cons je_i ja_nil) (by show 4 < 1073741824; decide)) je_i (nomark _)) (fun _ P H S => ?_) (fun _ P H S => w_nil ?_) fun ow σ P H S => ?_
  · have d2 := drawBs_dr (s := (st.take 4).2) hm.1 hm.2
    refine w_asg 6 (R := pGd 6) S (JE.to (je_callM (R := pL ((drawBs most (st.take 4).2).1.map pK)) 1 (fun _ => hl.db _ hr7) ((st.take 4).2, most) (fun _ => pv 1) (ja_cons (je_v 4 fun _ => pv 4) ja_nil) ⟨hm.1, by show most < 1073741824; omega⟩) fun P v h => ⟨_, d2.gd (by decide), h⟩) (fun ow σ P H S => w_nil ?_) scLaw.nd
    exact ⟨_, _, S.stH (i := 1) rfl⟩
  · exact ⟨_, _, (S.stH (i := 1) rfl).prTo (i := 6) (R' := pGd 6) rfl fun P v h => ⟨_, gy0, h⟩⟩
  obtain ⟨⟨y, gy⟩, S⟩ := S.prTell (i := 6) (α := { y : Ln // Gd 6 y }) (R' := fun y => pL (y.1.map pK)) rfl fun P v ⟨n, h, q⟩ => ⟨⟨n, h⟩, q⟩
  dsimp only at S
  let sy : Sl := .pr (pL (y.map pK))
  refine w_asg 7 (R := pL [pLn K cs.Line x, pLn K cs.Line y]) S (JF.je (jf_lst (ja_cons (je_make (fun _ => hp.ln _ hr7) x (ja_cons (je_v 5 fun _ => pv 5) ja_nil) gx.ok) (ja_cons (je_make (fun _ => hp.ln _ hr7) y (ja_cons (je_v 6 fun _ => pv 6) ja_nil) gy.ok) ja_nil)))) (fun ow σ P H S => ?_) scLaw.nd
  let sl : Sl := .pr (pL [pLn K cs.Line x, pLn K cs.Line y])
  have lpre : ∀ {n : Nat} {u v : Ln}, n ≤ 4 → Gd 6 u → Gd 6 v → preLA (u, v, (n : Int)) ∧ erCR cs ((n : Int), 0) = none := fun {n u v} hn hu hv =>
    ⟨⟨by show (n : Int).natAbs ≤ 16000000; omega, fun _ _ => by show preBA u v (n : Int).toNat; rw [Int.toNat_natCast]; exact preBA_gd hu hv hn (by omega)⟩, by unfold erCR; rw [if_neg (by dsimp only; omega)]⟩
  have al := fun (A : Around) (h : Room 7 A) => (hp.al A h).cal (pre' := fun a => preLA a ∧ erCR cs (a.2.2, 0) = none) fun a h => h
  refine w_for (ys := List.range 2) (r := fun _ : Nat => pLt (r + 1)) S (ji_list (K := K) (JF.je (jf_lst (ja_cons (JE.to (R := pI (r : Nat)) (je_v 2 fun _ => pv 2) fun P v h => ⟨r, by omega, h⟩) (ja_cons (R := pLt (r + 1)) (je_st 1 (fun st => JE.to (JE.stH (s := (st.take (r + 1)).2) (je_callM (R := pI ((st.take (r + 1)).1 : Nat)) 1 (fun _ => hp.tk _ hr7) (st, r + 1) (fun _ => pv 1)
    (ja_cons (JE.is (je_add (je_v 2 fun _ => pv 2) je_i) (congrArg (fun z => pI z) (show (r : Int) + 1 = ((r + 1 : Nat) : Int) by omega))) ja_nil) (by show r + 1 < 1073741824; omega)) 1 rfl) fun P v h => ⟨_, take_lt st (by omega), h⟩) rfl) ja_nil))))) (fun y => jg_name 8 fun _ => pg_name scLaw.nd rfl (by first | exact .inl rfl | exact .inr rfl))
    (fun pre => [sc, so, sr, sg, sm, sx, sy, sl, .un, .un, .un]) (Wk.refl _) (by simp) ?_ ?_ (hp := passes_of rfl)
  · intro xs' P0' H0' up pre t post hys ow σ P H S
    obtain ⟨⟨n, hn⟩, S⟩ := S.prTell (i := 8) (α := { n : Nat // n < r + 1 }) (R' := fun n => pI (n.1 : Nat)) rfl fun P v ⟨n, h, q⟩ => ⟨⟨n, h⟩, q⟩
    dsimp only at S
    have hn4 : n ≤ 4 := by omega
    let sn : Sl := .pr (pI (n : Nat))
    refine w_asg 9 (R := pL [pI (typL n [x, y] x : Nat), pI (typL n [x, y] y : Nat)]) S (je_call (fun _ => hl.ft _ hr7) (([x, y], n) : List Ln × Nat) (ja_cons (JF.je (jf_lst (ja_cons (je_v 5 fun _ => pv 5) (ja_cons (je_v 6 fun _ => pv 6) ja_nil)))) (ja_cons (je_v 8 fun _ => pv 8) ja_nil)) (preFT_two gx gy hn4 (by omega))) (fun ow σ P H S => ?_) scLaw.nd
    have hty : decide ((typL n [x, y] x : Int) = (typL n [x, y] y : Int)) = eB n x y := by
      have h := typL_ok (r := n) (lines := [x, y]) (fun f hf => by
        have : f = x ∨ f = y := by simpa using hf
        rcases this with rfl | rfl
        · exact gx.pos
        · exact gy.pos) (f := x) (g := y) (by simp) (by simp)
      rw [Bool.eq_iff_iff, decide_eq_true_iff, eB_iff, ← h]
      omega
    refine w_asg 10 (R := pB (eB n x y)) S (JE.is (je_cmp (fun _ => op_eq) rv_eqI (je_ixL (K := K) (j := 0) (je_v 9 fun _ => pv 9) je_i (fun _ _ => rfl) rfl rfl) (je_ixL (K := K) (j := 1) (je_v 9 fun _ => pv 9) je_i (fun _ _ => rfl) rfl rfl) (nomark _)) (congrArg pB hty)) (fun ow σ P H S => ?_) scLaw.nd
    refine w_if S (q := false) (JT.is (jt_not (jt_val (je_callG (fun _ => hp.sm _ hr7 hgd) (⟨pB (eB n x y), pB (eB n x y), _, _, _⟩ : TwoS) (ja_cons (je_call (fun _ => al _ hr7) ((x, y, (n : Int)) : Ln × Ln × Int) (ja_cons (je_ixL (K := K) (j := 0) (je_v 7 fun _ => pv 7) je_i (fun _ _ => rfl) rfl rfl) (ja_cons (je_ixL (K := K) (j := 1) (je_v 7 fun _ => pv 7) je_i (fun _ _ => rfl) rfl rfl) (ja_cons (je_v 8 fun _ => pv 8) ja_nil))) (lpre hn4 gx gy) rfl (by show pB (eB (n : Int).toNat _ _) = _; rw [Int.toNat_natCast])) (ja_cons (je_v 10 fun _ => pv 10) ja_nil))
      (preSm.of pd_b pd_b (wr_bl _) (wr_bl _)) rfl))) (by rw [eqv_of (wr_bl _)]; simp)) (fun h => absurd h (by decide)) (fun _ P H S => w_nil ?_)
    refine w_if S (q := false) (JT.is (jt_not (jt_val (je_callG (fun _ => hp.sm _ hr7 hgd) (⟨pB (eB n x y), pB (eB n x y), _, _, _⟩ : TwoS) (ja_cons (je_call (fun _ => al _ hr7) ((y, x, (n : Int)) : Ln × Ln × Int) (ja_cons (je_ixL (K := K) (j := 1) (je_v 7 fun _ => pv 7) je_i (fun _ _ => rfl) rfl rfl) (ja_cons (je_ixL (K := K) (j := 0) (je_v 7 fun _ => pv 7) je_i (fun _ _ => rfl) rfl rfl) (ja_cons (je_v 8 fun _ => pv 8) ja_nil))) (lpre hn4 gy gx) rfl (by show pB (eB (n : Int).toNat _ _) = _; rw [Int.toNat_natCast, eB_symm])) (ja_cons (je_v 10 fun _ => pv 10) ja_nil))
      (preSm.of pd_b pd_b (wr_bl _) (wr_bl _)) rfl))) (by rw [eqv_of (wr_bl _)]; simp)) (fun h => absurd h (by decide)) (fun _ P H S => w_nil ?_)
    refine w_if S (q := false) (ss1 := [sc, so, sr, sg, sm, sx, sy, sl, sn, .pr (pL [pI (typL n [x, y] x : Nat), pI (typL n [x, y] y : Nat)]), .pr (pB (eB n x y))]) (JT.is (jt_w (jw_and (q := eB n x y) (q' := !true) (jt_val (je_v 10 fun _ => pv 10)) fun he => jw_and1 (jt_not (jt_val (q := true) (je_callMGe (R := pB true) va fp 1 (fun _ => hl.pl _ hr8 hgd) (⟨x, y, n⟩ : PlA) (fun _ => pv 1) (ja_cons (je_v 5 fun _ => pv 5) (ja_cons (je_v 6 fun _ => pv 6) (ja_cons (je_v 8 fun _ => pv 8) ja_nil))) ⟨hn4, gx, gy, eB_iff.mp he⟩))))) (by simp)) (fun h => absurd h (by decide)) (fun _ P H S => w_nil ?_)
    refine w_if S (q := false) (ss1 := [sc, so, sr, sg, sm, sx, sy, sl, sn, .pr (pL [pI (typL n [x, y] x : Nat), pI (typL n [x, y] y : Nat)]), .pr (pB (eB n x y))]) (JT.is (jt_not (jt_val (q := true) (je_callMGe (R := pB true) va fp 1 (fun _ => hl.rf _ hr9 hgd) (⟨x, y, n⟩ : PlA) (fun _ => pv 1) (ja_cons (je_v 5 fun _ => pv 5) (ja_cons (je_v 6 fun _ => pv 6) (ja_cons (je_v 8 fun _ => pv 8) (ja_cons (je_v 10 fun _ => pv 10) ja_nil)))) ⟨hn4, gx, gy⟩))) rfl) (fun h => absurd h (by decide)) (fun _ P H S => w_nil (w_nil ?_))
    exact at8 S (.keep (.keep (.keep (.keep (.keep (.keep (.keep (.keep (.drop (.drop (.drop .nil)))))))))))
  · intro ow σ P H S
    exact w_ret S (je_callMGe (R := pB true) va fp 1 (fun _ => hl.fp _ hr8 hgd) (y : Ln) (fun _ => pv 1) (ja_cons (je_v 6 fun _ => pv 6) ja_nil) gy.ok) fun v P H S r => kQ rfl v P H S.gr r
end
end K74
/-! all defs together -/
namespace K74
open PySem PySem.Spec PyProof.Rows L2 Ly M74
structure Dfn (K : PySem.W.Frag) (mg : Str → Option Value) (x : Str) (st : Stmt) (ps : List Str) : Prop where
  ex : ∃ (f : Addr) (fd : FuncData), FnP K x st f fd ∧ mg x = some (.ref f) ∧ Binds K fd ps []
structure ErrK (K : PySem.W.Frag) (mg : Str → Option Value) (x qual : Str) (st : Stmt) (C : Addr) (f : Str) (ps : List Str) : Prop where
  U : SupCls K mg C
  no : PySem.W.findIn K (.ref C) f = some none
  hm : mg x = some (.ref C)
  ex : ∃ (fI : Addr) (fd : FuncData), PySem.W.findIn K (.ref C) "__init__" = some (some (.ref fI)) ∧ PySem.W.typeIn K (.ref fI) = some (.type "function") ∧ SupFun K "__init__" qual st C fI fd ∧ Binds K fd ps []
structure LineK (K : PySem.W.Frag) (mg : Str → Option Value) (C : Addr) : Prop where
  hm : mg "Line" = some (.ref C)
  k : LnK K C
  ini : ∃ (f : Addr) (fd : FuncData), Mk K C f ∧ Fun K "__init__" "Line.__init__" sLI f fd ∧ Binds K fd ["self", "blocks"] []
  has : ∃ (f : Addr) (fd : FuncData), Meth K C "has" f ∧ Fun K "has" "Line.has" sHas f fd ∧ Binds K fd ["self", "place"] []
/-- what stands behind the top -/
structure AllK (K : PySem.W.Frag) (mg : Str → Option Value) (cs : Cs) : Prop where
  T : Cst K mg
  L : LineK K mg cs.Line
  eC : ErrK K mg "BadCount" "BadCount.__init__" sCount cs.count "count" ["self", "count"]
  eP : ErrK K mg "BadPlace" "BadPlace.__init__" sPlace cs.place "place" ["self", "place"]
  eA : ErrK K mg "Apart" "Apart.__init__" sApart cs.apart "rounds" ["self", "rounds"]
  N : NmK K mg cs
  S : SayK K mg cs
  dfin : Dfn K mg "_finite_blocks" sFin ["many"]
  dleft : Dfn K mg "left_blocks" sLeft ["blocks", "index", "number"]
  dright : Dfn K mg "right_blocks" sRight ["blocks", "index", "number"]
  dform : Dfn K mg "_form" sForm ["blocks", "most"]
  dhalves : Dfn K mg "_halves" sHalves ["blocks", "index", "number", "most"]
  dnumOf : Dfn K mg "_numbers_of" sNumOf ["pair", "numbers"]
  dplc : Dfn K mg "_enough_places" sPlc ["blocks", "most"]
  dFN : Dfn K mg "_form_numbers" sFN ["forms", "rounds"]
  dBA : Dfn K mg "_blocks_alike" sBA ["blocks", "others", "rounds"]
  dCR : Dfn K mg "check_line_rounds" sCR ["rounds", "least"]
  dIB : Dfn K mg "_is_block" sIB ["block"]
  dCP : Dfn K mg "check_line_place" sCP ["line", "place"]
  dLA : Dfn K mg "lines_alike" sLA ["first", "second", "rounds"]
  dLP : Dfn K mg "line_pair" sLP ["rounds"]
  dAn : Dfn K mg "line_answer" sAn ["first", "second", "rounds", "side", "place"]
  dLB : Dfn K mg "loeb_breaker" sLB ["line"]
  dCl : Dfn K mg "_law_cells" sCl ["script"]
  dTk : Dfn K mg "_law_take" sTk ["state", "many"]
  dSm : Dfn K mg "_law_same" sSame ["told", "due"]
  dPO : Dfn K mg "_law_part_of" sPO ["blocks", "place", "ahead"]
  dNm : Dfn K mg "_law_normal" sNm ["blocks", "rounds"]
  dSp : Dfn K mg "_law_spots" sSp ["blocks", "most"]
  dPB : Dfn K mg "_law_parts_below" sPB ["line", "rounds"]
  dFT : Dfn K mg "_law_find_types" sFT ["lines", "rounds"]
  dLAn : Dfn K mg "_law_answer" sLAn ["source", "target", "rounds", "place"]
  dDB : Dfn K mg "_law_draw_blocks" sDB ["state", "most"]
  dLk : Dfn K mg "_law_like" sLk ["state", "blocks", "rounds"]
  dDP : Dfn K mg "_law_draw_place" sDP ["state", "blocks"]
  dNd : Dfn K mg "_law_named" sNd ["e"]
  dTr : Dfn K mg "_law_try" sTr ["which", "first", "second", "rounds", "side", "place"]
  dPl : Dfn K mg "_law_play" sPl ["state", "first", "second", "rounds"]
  dRf : Dfn K mg "_law_refused" sRf ["state", "first", "second", "rounds", "alike"]
  dBD : Dfn K mg "_law_breaker_due" sBD ["blocks"]
  dFP : Dfn K mg "_law_facts_part" sFP ["state", "blocks"]
  dLaw : Dfn K mg "law" sLaw ["script"]
section
variable {w : World} {K : PySem.W.Frag} {mg : Str → Option Value} {base : Heap} {cs : Cs} {x : Str} {st : Stmt} {ps : List Str} {sp : Sp} {k : Nat}
theorem Dfn.cal (d : Dfn K mg x st ps) (h : ∀ (f : Addr) (fd : FuncData), FnP K x st f fd → FnOk PP w K mg base CX0 k f fd ps sp) : ∀ A : Around, Room k A → Cal PP w K mg base A x sp := fun A hr => by
  obtain ⟨f, fd, F, hm, hb⟩ := d.ex
  exact ⟨CX0, k, f, fd, ps, h f fd F, hr, hm, F.kp, hb, fun _ _ _ => pass0⟩
theorem Dfn.calR (d : Dfn K mg x st ps) (h : ∀ (f : Addr) (fd : FuncData), FnP K x st f fd → FnOk PP w K mg base (L2.CX PP w) k f fd ps sp) : ∀ A : Around, Room k A → CalR PP w K mg base A x sp := fun A hr => by
  obtain ⟨f, fd, F, hm, hb⟩ := d.ex
  exact ⟨k, f, fd, ps, h f fd F, hr, hm, F.kp, hb⟩
theorem Dfn.calG (d : Dfn K mg x st ps) (h : ∀ (f : Addr) (fd : FuncData), FnP K x st f fd → FnG PP w K mg base k f fd ps sp) : ∀ A : Around, Room k A → A.guards = some [] → CalG PP w K mg base A x sp := fun A hr hg => by
  obtain ⟨f, fd, F, hm, hb⟩ := d.ex
  exact ⟨hg, k, f, fd, ps, h f fd F, hr, hm, F.kp, hb⟩
/-- the law's own promise -/
theorem all_ok (a : AllK K mg cs) : ∃ (f : Addr) (fd : FuncData), mg "law" = some (.ref f) ∧ Binds K fd ["script"] [] ∧ ∀ (w : World) (base : Heap), FnG PP w K mg base 11 f fd ["script"] (spLaw K) := by
  obtain ⟨f, fd, F, hm, hb⟩ := a.dLaw.ex
  refine ⟨f, fd, hm, hb, fun w base => ?_⟩
  have T := a.T
  have hrep : mg "repr" = none := T.bt.repr
  have TL := a.L.k
  -- what may be raised
  have rc : RaiseK PP w K mg base "BadCount" cs.count "count" okI := by
    obtain ⟨fI, fd, h1, h2, h3, h4⟩ := a.eC.ex
    exact ⟨a.eC.U.oex, a.eC.hm, fI, fd, _, h1, h2, ok_iCount h3 a.eC.U a.eC.no, h4⟩
  have rp : RaiseK PP w K mg base "BadPlace" cs.place "place" (okPl K) := by
    obtain ⟨fI, fd, h1, h2, h3, h4⟩ := a.eP.ex
    exact ⟨a.eP.U.oex, a.eP.hm, fI, fd, _, h1, h2, ok_iPlace h3 a.eP.U a.eP.no T.bt, h4⟩
  have ra : RaiseK PP w K mg base "Apart" cs.apart "rounds" okI := by
    obtain ⟨fI, fd, h1, h2, h3, h4⟩ := a.eA.ex
    exact ⟨a.eA.U.oex, a.eA.hm, fI, fd, _, h1, h2, ok_iApart h3 a.eA.U a.eA.no, h4⟩
  -- the package
  have cFin := a.dfin.cal (w := w) (base := base) fun f fd F => ok_fin F
  have cLeft := a.dleft.cal (w := w) (base := base) fun f fd F => ok_left F cFin
  have cRight := a.dright.cal (w := w) (base := base) fun f fd F => ok_right F cFin
  have cForm := a.dform.cal (w := w) (base := base) fun f fd F => ok_form T F
  have cHalves := a.dhalves.cal (w := w) (base := base) fun f fd F => ok_halves F cForm cLeft cRight
  have cNumOf := a.dnumOf.cal (w := w) (base := base) fun f fd F => ok_numOf F
  have cPlc := a.dplc.cal (w := w) (base := base) fun f fd F => ok_plc T F
  have cFN := a.dFN.cal (w := w) (base := base) fun f fd F => ok_FN T F (fun A h => cPlc A (h.mono (by decide))) (fun A h => cHalves A (h.mono (by decide))) (fun A h => cNumOf A (h.mono (by decide)))
  have cBA := a.dBA.cal (w := w) (base := base) fun f fd F => ok_BA F (fun A h => cForm A (h.mono (by decide))) cFN
  have cCR := a.dCR.calR (w := w) (base := base) fun f fd F => ok_CR F rc T
  have cIB := a.dIB.cal (w := w) (base := base) fun f fd F => ok_IB F T
  have cLn : ∀ A : Around, Room 3 A → MakC PP w K mg base A "Line" cs.Line (spLI K cs.Line) := fun A hr => by
    obtain ⟨fI, fdI, M, F, hb⟩ := a.L.ini
    exact ⟨CX0, 2, fI, fdI, _, M, ok_LI F T TL.c TL.bl TL.tx cIB, hr, a.L.hm, hb, fun _ _ _ => pass0⟩
  have cHas : ∀ A : Around, Room 1 A → MetC PP w K mg base A cs.Line "has" (spHas K cs.Line) := fun A hr => by
    obtain ⟨fH, fdH, M, F, hb⟩ := a.L.has
    exact ⟨CX0, 1, fH, fdH, _, TL.c, M, ok_has F T TL.c TL.bl, hr, hb, fun _ _ _ => pass0⟩
  have cCP := a.dCP.calR (w := w) (base := base) fun f fd F => ok_CP F rp T (fun A h => cHas A (h.mono (by decide)))
  have cLA := a.dLA.calR (w := w) (base := base) fun f fd F => ok_LA F TL cCR cBA
  have cLP := a.dLP.calR (w := w) (base := base) fun f fd F => ok_LP F cCR cLn
  have cAn := a.dAn.calR (w := w) (base := base) fun f fd F => ok_An F T TL rc ra cCR cCP cBA (fun A h => cHalves A (h.mono (by decide))) (fun A h => cPlc A (h.mono (by decide))) (fun A h => cFN A (h.mono (by decide))) (fun A h => cNumOf A (h.mono (by decide)))
  have cLB := a.dLB.cal (w := w) (base := base) fun f fd F => ok_LB F T TL
  -- the law's own
  have cCl := a.dCl.cal (w := w) (base := base) fun f fd F => ok_Cl F T
  have cTk := a.dTk.cal (w := w) (base := base) fun f fd F => ok_Tk T F
  have cPO := a.dPO.cal (w := w) (base := base) fun f fd F => ok_PO F T
  have cNm := a.dNm.cal (w := w) (base := base) fun f fd F => ok_Nm F T
  have cSp := a.dSp.cal (w := w) (base := base) fun f fd F => ok_Sp F T
  have cPB := a.dPB.cal (w := w) (base := base) fun f fd F => ok_PB F cSp cPO cNm
  have cFT := a.dFT.cal (w := w) (base := base) fun f fd F => ok_FT T F cPB (fun A h => cNm A (h.mono (by decide)))
  have cLAn := a.dLAn.cal (w := w) (base := base) fun f fd F => ok_LAn T F (fun A h => cSp A (h.mono (by decide))) (fun A h => cPO A (h.mono (by decide))) cFT
  have cDB := a.dDB.cal (w := w) (base := base) fun f fd F => ok_DB T F cTk
  have cLk := a.dLk.cal (w := w) (base := base) fun f fd F => ok_Lk T F cTk
  have cDP := a.dDP.cal (w := w) (base := base) fun f fd F => ok_DP T F cTk
  have cBD := a.dBD.cal (w := w) (base := base) fun f fd F => ok_BD F T
  have cSm := a.dSm.calG (w := w) (base := base) fun f fd F => ok_Sm F T hrep
  have nd : NdC w K mg base cs := by
    obtain ⟨f, fd, F, hm, hb⟩ := a.dNd.ex
    exact ⟨f, fd, ok_Nd F T a.N, hm, F.kp, hb⟩
  have cT0 := a.dTr.calG (w := w) (base := base) fun f fd F => ok_Tr0 F nd a.S cLA
  have cT1 := a.dTr.calG (w := w) (base := base) fun f fd F => ok_Tr1 F nd a.S cAn
  have cT2 := a.dTr.calG (w := w) (base := base) fun f fd F => ok_Tr2 F nd a.S (fun A h => cLP A (h.mono (by decide)))
  have hp : Hlp w K mg base cs := ⟨fun A h => cTk A (h.mono (by decide)), fun A h => cDP A (h.mono (by decide)), fun A h => cLAn A (h.mono (by decide)), cAn, cLA, fun A h => cLn A (h.mono (by decide)), fun A h => cPO A (h.mono (by decide)), fun A h g => cSm A (h.mono (by decide)) g⟩
  have hh : HlpT w K mg base cs := ⟨hp, cT0, cT1, cT2⟩
  have hf : HlpF w K mg base cs := ⟨hp, fun A h => cBD A (h.mono (by decide)), fun A h => cLB A (h.mono (by decide)), fun A h => cLP A (h.mono (by decide))⟩
  have cPl := a.dPl.calG (w := w) (base := base) fun f fd F => ok_Pl F T hp
  have cRf := a.dRf.calG (w := w) (base := base) fun f fd F => ok_Rf F T hrep hh
  have cFP := a.dFP.calG (w := w) (base := base) fun f fd F => ok_FP F T TL hf
  exact ok_Law F T ⟨hp, fun A h => cCl A (h.mono (by decide)), fun A h => cDB A (h.mono (by decide)), fun A h => cLk A (h.mono (by decide)), fun A h => cFT A (h.mono (by decide)), cPl, cRf, cFP⟩
end
end K74
/-! The end: the law is called where nothing is written out. -/
namespace Ly
open PySem PySem.Spec PyProof.Rows L2
/-- the script alone is tracked; not if it is of the written part -/
def trk (K : PySem.W.Frag) (a : Addr) (u : HO) : Hp := fun b => if b = a ∧ K.lookup a = none then some u else none
theorem trk_some {K : PySem.W.Frag} {a b : Addr} {u u' : HO} (h : trk K a u b = some u') : b = a ∧ u' = u ∧ K.lookup a = none := by
  unfold trk at h
  split at h
  · rename_i q
    injection h with h
    exact ⟨q.1, h.symm, q.2⟩
  · cases h
theorem trk_none {K : PySem.W.Frag} {a b : Addr} {u : HO} (h : b = a → K.lookup a = none → False) : trk K a u b = none := by
  cases q : trk K a u b with
  | none => rfl
  | some u' => exact (h (trk_some q).1 (trk_some q).2.2).elim
section
variable {P : Program} {w : World} {K : PySem.W.Frag} {mg mb : Str → Option Value} {k : Nat} {fa a : Addr} {fd : FuncData} {x : Str} {sp : Sp} {t : Shared} {vs : List Value} {ns : List Int}
theorem callG (KX : K.In t.heap) (n1 : t.heap.Ns mainGlobals mg) (n2 : t.heap.Ns builtinsNs mb) (n3 : ∀ x : Str, x ≠ "__name__" → mb x = bootBuiltins x) (n4 : t.heap.NoLimit) (n5 : t.gens = #[]) (at_ : t.heap.get? a = some { cls := .type "list", data := .seq vs.toArray }) (is : IntsAre vs ns) (sz : ns.length ≤ sizeLine)
    (hr : Room k callerA) (hgd : callerA.guards = some []) (F : ∀ base : Heap, FnG P w K mg base k fa fd [x] sp) (bd : BindsTo t fd ⟨[.ref a], []⟩ [(x, .ref a)]) (hsp : ∀ H : Hp, SqL K H a (ns.map V.int) → sp [.ref a] H (fun v _ => v = .bl true) fun _ _ _ => False) :
    codeAny (model P w) callerA (.call (.ref fa) ⟨[.ref a], []⟩) (fun r s' => r = .ok (.ret (.bool true)) ∧ OldK t.heap s'.heap ∧ s'.os = t.os ∧ AllBare s'.gens) t := by
  have rv := vals_ints is
  have ln := is.length
  let u : HO := .frz { cls := .type "list", data := .seq vs.toArray } (.lst (ns.map V.int))
  have sq : SqL K (trk K a u) a (ns.map V.int) := by
    cases q : K.lookup a with
    | none => exact .inl (.inr ⟨_, if_pos ⟨rfl, q⟩⟩)
    | some o =>
      have e := (KX a o q).symm.trans at_
      injection e with e
      exact .inr ⟨o, vs.toArray, _, q, by rw [e], by rw [e], by rw [e], by rw [List.size_toArray, ln]; exact sz, by simpa using rv⟩
  have hok : HOk P w (trk K a u) t.heap := fun b z h => by
    obtain ⟨rfl, rfl, _⟩ := trk_some h
    exact ⟨at_, by rw [List.length_map]; exact sz, vs, _, rv, at_⟩
  have off : ∀ {b : Addr} {m : Str → Option Value}, t.heap.Ns b m → trk K a u b = none := fun {b m} ⟨o, es, ep, e, d, _⟩ => trk_none fun z _ => by
    rw [z, at_] at e
    injection e with e
    subst e
    cases (show Data.seq vs.toArray _ = Data.dict es ep from d)
  have nsT : ∀ {b : Addr} {m : Str → Option Value}, t.heap.Ns b m → (hidT t.heap (trk K a u)).Ns b m := fun {b m} h => by
    have n := off h
    obtain ⟨o, es, ep, e, d, r⟩ := h
    exact ⟨o, es, ep, hidT_get e n, d, r⟩
  have kin : K.In (hidT t.heap (trk K a u)) := fun b o e => hidT_get (KX b o e) (trk_none fun z q => by rw [z, q] at e; cases e)
  have md : Mod K mg (hidT t.heap (trk K a u)) := ⟨kin, nsT n1, ⟨mb, nsT n2, n3⟩, by
    obtain ⟨mc, h1, h2⟩ := n4
    exact ⟨mc, nsT h1, h2⟩⟩
  have run := (F (hidT t.heap (trk K a u))).run callerA [] t (trk K a u) ⟨[.ref a], []⟩ [.ref a] [.ref a] _ _ hgd hr ⟨rfl, md, fun b o e => of_hidT e, Nat.le_of_eq (hidT_size _ _), trivial, fun b hb => absurd hb (by intro z; cases z), hok, .of_eq n5⟩ bd (.cons rfl .nil) (hsp _ sq)
  refine codeAny_mono run fun r s' h => ?_
  match r, h with
  | .error e, h =>
    obtain ⟨_, _, _, _, _, _, _, _, _, _, _, _, z⟩ := h
    exact z.elim
  | .ok .next, h => exact h.elim
  | .ok .brk, h => exact h.elim
  | .ok .cont, h => exact h.elim
  | .ok (.ret v), h =>
    obtain ⟨y, H', os, bare, un, ok', rel, q⟩ := h
    obtain rfl : y = .bl true := q
    obtain rfl : v = Value.bool true := rel
    refine ⟨rfl, OldK.of_keep fun b o e => ?_, os, bare⟩
    cases q : trk K a u b with
    | none => exact un.keep b o e q (fun z => by cases z) (fun z => by cases z)
    | some z =>
      obtain ⟨rfl, rfl, _⟩ := trk_some q
      have e1 := (ok' b _ (un.frzs b _ _ q)).1
      rw [at_] at e
      rw [← e]
      exact e1
end
end Ly
namespace K74
open PySem PySem.Spec PyProof.Rows L2 Ly M74
theorem law_sp {K : PySem.W.Frag} {H : Hp} {a : Addr} {ns : List Int} (h : SqL K H a (ns.map V.int)) : spLaw K [.ref a] H (fun v _ => v = .bl true) fun _ _ _ => False :=
  ⟨H, ns, fun _ _ e => .inl e, trivial, .cons ⟨a, rfl, h⟩ .nil, fun _ v P2 H2 _ r => r, fun e he => by cases he⟩
theorem walkG {q : Program} {loose : List Str} {XP : (Str → Option Value) → Heap → Prop} {YP : World → Heap → Prop} {d : DefRec} {K : Params → PySem.W.Frag} (hdf : d.params.defaults = []) (hnm : d.name = "law") (hY : ∀ (w : World) (h : Heap), YP w h → (K w.params).In h)
    (F : ∀ (w : World) (mg : Str → Option Value) (h : Heap), (K w.params).In h → h.Ns mainGlobals mg → ∃ cs, AllK (K w.params) mg cs) :
    PySem.W.WalkO q loose XP YP PySem.Challenge.rw_framesays_k74_line_rounds.row.toRowW d [] (fun f vs => PySem.call f vs) := by
  refine Att.attach_call (l := PySem.Challenge.rw_framesays_k74_line_rounds) (n := 63) rfl hdf fun w s₀ s₁ mg mb fa o pm cd doc a vs ns G Y ho hd hcd hmg hobj hints hlen hg => ?_
  have KX := hY w _ Y
  obtain ⟨cs, hA⟩ := F w mg _ KX G.T.g
  obtain ⟨f, fd, hm, hb, hF⟩ := all_ok hA
  rw [hnm] at hmg
  rw [hm] at hmg
  injection hmg with hmg
  injection hmg with hmg
  subst hmg
  exact callG KX G.T.g G.T.b G.T.builtins G.T.nolimit hg hobj hints (Nat.le_trans hlen (by rw [sizeLine_eq]; decide)) ⟨rfl, by decide, by decide⟩ rfl (hF w) (hb s₁ [.ref a] KX rfl) fun H h => law_sp h
end K74
/-! What the top has written, put together. -/
namespace K74
open PySem PySem.Spec PyProof.Rows L2 Ly M74
def Bd (x : Str) (st : Stmt) (ps : List Str) : Prop := ∀ (kV doc pm : Value) (an : Option Addr) (cdv ct : Value) (us : List Value), us.length = ps.length → bindArgs (PySem.W.fnOf x x (defArgs st) (defBody st) (defScope st) .none kV doc pm an cdv ct) ⟨us, []⟩ = pure (ps.zip us)
theorem b_fin : Bd "_finite_blocks" sFin ["many"] := fun _ _ _ _ _ _ us hl => match us, hl with | [_], _ => rfl
theorem b_left : Bd "left_blocks" sLeft ["blocks", "index", "number"] := fun _ _ _ _ _ _ us hl => match us, hl with | [_, _, _], _ => rfl
theorem b_right : Bd "right_blocks" sRight ["blocks", "index", "number"] := fun _ _ _ _ _ _ us hl => match us, hl with | [_, _, _], _ => rfl
theorem b_form : Bd "_form" sForm ["blocks", "most"] := fun _ _ _ _ _ _ us hl => match us, hl with | [_, _], _ => rfl
theorem b_halves : Bd "_halves" sHalves ["blocks", "index", "number", "most"] := fun _ _ _ _ _ _ us hl => match us, hl with | [_, _, _, _], _ => rfl
theorem b_numOf : Bd "_numbers_of" sNumOf ["pair", "numbers"] := fun _ _ _ _ _ _ us hl => match us, hl with | [_, _], _ => rfl
theorem b_plc : Bd "_enough_places" sPlc ["blocks", "most"] := fun _ _ _ _ _ _ us hl => match us, hl with | [_, _], _ => rfl
theorem b_FN : Bd "_form_numbers" sFN ["forms", "rounds"] := fun _ _ _ _ _ _ us hl => match us, hl with | [_, _], _ => rfl
theorem b_BA : Bd "_blocks_alike" sBA ["blocks", "others", "rounds"] := fun _ _ _ _ _ _ us hl => match us, hl with | [_, _, _], _ => rfl
theorem b_CR : Bd "check_line_rounds" sCR ["rounds", "least"] := fun _ _ _ _ _ _ us hl => match us, hl with | [_, _], _ => rfl
theorem b_IB : Bd "_is_block" sIB ["block"] := fun _ _ _ _ _ _ us hl => match us, hl with | [_], _ => rfl
theorem b_CP : Bd "check_line_place" sCP ["line", "place"] := fun _ _ _ _ _ _ us hl => match us, hl with | [_, _], _ => rfl
theorem b_LA : Bd "lines_alike" sLA ["first", "second", "rounds"] := fun _ _ _ _ _ _ us hl => match us, hl with | [_, _, _], _ => rfl
theorem b_LP : Bd "line_pair" sLP ["rounds"] := fun _ _ _ _ _ _ us hl => match us, hl with | [_], _ => rfl
theorem b_An : Bd "line_answer" sAn ["first", "second", "rounds", "side", "place"] := fun _ _ _ _ _ _ us hl => match us, hl with | [_, _, _, _, _], _ => rfl
theorem b_LB : Bd "loeb_breaker" sLB ["line"] := fun _ _ _ _ _ _ us hl => match us, hl with | [_], _ => rfl
theorem b_Cl : Bd "_law_cells" sCl ["script"] := fun _ _ _ _ _ _ us hl => match us, hl with | [_], _ => rfl
theorem b_Tk : Bd "_law_take" sTk ["state", "many"] := fun _ _ _ _ _ _ us hl => match us, hl with | [_, _], _ => rfl
theorem b_Sm : Bd "_law_same" sSame ["told", "due"] := fun _ _ _ _ _ _ us hl => match us, hl with | [_, _], _ => rfl
theorem b_PO : Bd "_law_part_of" sPO ["blocks", "place", "ahead"] := fun _ _ _ _ _ _ us hl => match us, hl with | [_, _, _], _ => rfl
theorem b_Nm : Bd "_law_normal" sNm ["blocks", "rounds"] := fun _ _ _ _ _ _ us hl => match us, hl with | [_, _], _ => rfl
theorem b_Sp : Bd "_law_spots" sSp ["blocks", "most"] := fun _ _ _ _ _ _ us hl => match us, hl with | [_, _], _ => rfl
theorem b_PB : Bd "_law_parts_below" sPB ["line", "rounds"] := fun _ _ _ _ _ _ us hl => match us, hl with | [_, _], _ => rfl
theorem b_FT : Bd "_law_find_types" sFT ["lines", "rounds"] := fun _ _ _ _ _ _ us hl => match us, hl with | [_, _], _ => rfl
theorem b_LAn : Bd "_law_answer" sLAn ["source", "target", "rounds", "place"] := fun _ _ _ _ _ _ us hl => match us, hl with | [_, _, _, _], _ => rfl
theorem b_DB : Bd "_law_draw_blocks" sDB ["state", "most"] := fun _ _ _ _ _ _ us hl => match us, hl with | [_, _], _ => rfl
theorem b_Lk : Bd "_law_like" sLk ["state", "blocks", "rounds"] := fun _ _ _ _ _ _ us hl => match us, hl with | [_, _, _], _ => rfl
theorem b_DP : Bd "_law_draw_place" sDP ["state", "blocks"] := fun _ _ _ _ _ _ us hl => match us, hl with | [_, _], _ => rfl
theorem b_Nd : Bd "_law_named" sNd ["e"] := fun _ _ _ _ _ _ us hl => match us, hl with | [_], _ => rfl
theorem b_Tr : Bd "_law_try" sTr ["which", "first", "second", "rounds", "side", "place"] := fun _ _ _ _ _ _ us hl => match us, hl with | [_, _, _, _, _, _], _ => rfl
theorem b_Pl : Bd "_law_play" sPl ["state", "first", "second", "rounds"] := fun _ _ _ _ _ _ us hl => match us, hl with | [_, _, _, _], _ => rfl
theorem b_Rf : Bd "_law_refused" sRf ["state", "first", "second", "rounds", "alike"] := fun _ _ _ _ _ _ us hl => match us, hl with | [_, _, _, _, _], _ => rfl
theorem b_BD : Bd "_law_breaker_due" sBD ["blocks"] := fun _ _ _ _ _ _ us hl => match us, hl with | [_], _ => rfl
theorem b_FP : Bd "_law_facts_part" sFP ["state", "blocks"] := fun _ _ _ _ _ _ us hl => match us, hl with | [_, _], _ => rfl
theorem b_Law : Bd "law" sLaw ["script"] := fun _ _ _ _ _ _ us hl => match us, hl with | [_], _ => rfl
section
variable {K : PySem.W.Frag} {h : Heap} {mg : Str → Option Value} {x : Str} {st : Stmt} {f : Addr} {oc : Value} {od an : Option Addr} {osl : Array (Option Value)} {kV doc pm cdv ct : Value} {ps : List Str}
theorem dfn_mk (X : K.In h) (G : h.Ns mainGlobals mg) (b : Bd x st ps) (a : PySem.W.nsIn K mainGlobals x = some (some (.ref f)))
    (l : K.lookup f = some ⟨oc, od, .func (PySem.W.fnOf x x (defArgs st) (defBody st) (defScope st) .none kV doc pm an cdv ct), osl⟩) (c : PySem.W.codeIn K cdv x = true) (k : PySem.W.keepIn K (.ref f) = true) : Dfn K mg x st ps :=
  ⟨f, _, fun_mk l c k, PySem.W.mg_of X G a, (fun_mk (st := st) l c k).binds b⟩
theorem cst_mk (X : K.In h) (G : h.Ns mainGlobals mg) {aE : Addr} {d1 : Option Addr} {n1 : Nat} {s1 : Array (Option Value)} {t1 t2 t3 t4 t5 : Tok} (z0 : PySem.W.nsIn K mainGlobals "len" = some none) (z1 : PySem.W.nsIn K mainGlobals "range" = some none) (z2 : PySem.W.nsIn K mainGlobals "min" = some none) (z3 : PySem.W.nsIn K mainGlobals "max" = some none) (z4 : PySem.W.nsIn K mainGlobals "abs" = some none) (z5 : PySem.W.nsIn K mainGlobals "int" = some none) (z6 : PySem.W.nsIn K mainGlobals "str" = some none) (z7 : PySem.W.nsIn K mainGlobals "list" = some none) (z8 : PySem.W.nsIn K mainGlobals "tuple" = some none) (z9 : PySem.W.nsIn K mainGlobals "sorted" = some none) (z10 : PySem.W.nsIn K mainGlobals "set" = some none) (z11 : PySem.W.nsIn K mainGlobals "isinstance" = some none) (z12 : PySem.W.nsIn K mainGlobals "repr" = some none) (z13 : PySem.W.nsIn K mainGlobals "enumerate" = some none) (z14 : PySem.W.nsIn K mainGlobals "zip" = some none) (z15 : PySem.W.nsIn K mainGlobals "ValueError" = some none) (z16 : PySem.W.nsIn K mainGlobals "super" = some none)
    (e1 : PySem.W.nsIn K mainGlobals "ENDLESS" = some (some (.ref aE))) (e2 : K.lookup aE = some ⟨.type "tuple", d1, .seq #[.str "up" t1, .str "down" t2] n1, s1⟩)
    (e3 : PySem.W.nsIn K mainGlobals "MOST_BLOCKS" = some (some (.int 8 t3))) (e4 : PySem.W.nsIn K mainGlobals "MOST_NUMBER" = some (some (.int 1000 t4))) (e5 : PySem.W.nsIn K mainGlobals "MOST_ROUNDS" = some (some (.int 5 t5))) : Cst K mg where
  bt := ⟨PySem.W.mg_none_of X G z0, PySem.W.mg_none_of X G z1, PySem.W.mg_none_of X G z2, PySem.W.mg_none_of X G z3, PySem.W.mg_none_of X G z4, PySem.W.mg_none_of X G z5, PySem.W.mg_none_of X G z6, PySem.W.mg_none_of X G z7, PySem.W.mg_none_of X G z8, PySem.W.mg_none_of X G z9, PySem.W.mg_none_of X G z10, PySem.W.mg_none_of X G z11, PySem.W.mg_none_of X G z12, PySem.W.mg_none_of X G z13, PySem.W.mg_none_of X G z14, PySem.W.mg_none_of X G z15, PySem.W.mg_none_of X G z16⟩
  END := ⟨aE, PySem.W.mg_of X G e1, fun H => .inr ⟨_, _, _, e2, rfl, rfl, by show 2 ≤ sizeLine; rw [sizeLine_eq]; decide, .cons ⟨t1, rfl⟩ (.cons ⟨t2, rfl⟩ .nil)⟩⟩
  MB := ⟨t3, PySem.W.mg_of X G e3⟩
  MN := ⟨t4, PySem.W.mg_of X G e4⟩
  MR := ⟨t5, PySem.W.mg_of X G e5⟩
theorem line_mk (X : K.In h) (G : h.Ns mainGlobals mg) {C f1 f2 : Addr} {oc1 oc2 : Value} {od1 an1 od2 an2 : Option Addr} {sl1 sl2 : Array (Option Value)} {kV1 dc1 pm1 cd1 ct1 kV2 dc2 pm2 cd2 ct2 : Value}
    (a : PySem.W.nsIn K mainGlobals "Line" = some (some (.ref C))) (pg : PySem.W.plainGet K C Str.empty = true) (hd : PySem.W.hasDictIn K C = true) (po : PySem.W.plainOver K C = true) (sa : PySem.W.findIn K (.ref C) "__setattr__" = some (some (.builtin "object.__setattr__")))
    (nb : PySem.W.findIn K (.ref C) "blocks" = some none) (nt : PySem.W.findIn K (.ref C) "text" = some none) (mk : PySem.W.makesIn K C = true) (kC : PySem.W.keepIn K (.ref C) = true)
    (i1 : PySem.W.findIn K (.ref C) "__init__" = some (some (.ref f1))) (i2 : PySem.W.isFn K (.ref f1) = true) (i3 : K.lookup f1 = some ⟨oc1, od1, .func (PySem.W.fnOf "__init__" "Line.__init__" (defArgs sLI) (defBody sLI) (defScope sLI) .none kV1 dc1 pm1 an1 cd1 ct1), sl1⟩) (i4 : PySem.W.codeIn K cd1 "Line.__init__" = true) (i5 : PySem.W.keepIn K (.ref f1) = true)
    (j1 : PySem.W.findIn K (.ref C) "has" = some (some (.ref f2))) (j2 : PySem.W.isFn K (.ref f2) = true) (j3 : K.lookup f2 = some ⟨oc2, od2, .func (PySem.W.fnOf "has" "Line.has" (defArgs sHas) (defBody sHas) (defScope sHas) .none kV2 dc2 pm2 an2 cd2 ct2), sl2⟩) (j4 : PySem.W.codeIn K cd2 "Line.has" = true) (j5 : PySem.W.keepIn K (.ref f2) = true) : LineK K mg C where
  hm := PySem.W.mg_of X G a
  k := ⟨⟨pg, hd, po, sa⟩, nb, nt⟩
  ini := ⟨f1, _, ⟨mk, i1, i2, kC⟩, fun_mk i3 i4 i5, (fun_mk (st := sLI) i3 i4 i5).binds fun _ _ _ _ _ _ us hl => match us, hl with | [_, _], _ => rfl⟩
  has := ⟨f2, _, ⟨j1, j2, j5⟩, fun_mk j3 j4 j5, (fun_mk (st := sHas) j3 j4 j5).binds fun _ _ _ _ _ _ us hl => match us, hl with | [_, _], _ => rfl⟩
theorem err_mk (X : K.In h) (G : h.Ns mainGlobals mg) {x qual : Str} {st : Stmt} {fl : Str} {ps : List Str} {C f : Addr} {nm q : Str} {N : Addr} {bs bm : List Value} {sn : List Str} {sub : List Value} {ab : Bool} {col : Option Bool} {dd : Option Addr} {k0 k1 k2 k3 k5 : Option Value}
    {cc cda : Addr} {cl ccl : Value} {cld cdd : Option Addr} {csl ccs : Array (Option Value)} {vs : Array Value} {file : Str} {tf : Tok}
    (b : ∀ (kV doc pm : Value) (an : Option Addr) (cda : Addr) (ct : Value) (cc : Addr) (us : List Value), us.length = ps.length → bindArgs (PySem.W.ksFn "__init__" qual (defArgs st) (defBody st) (defScope st) .none kV doc pm an (.ref cda) ct cc) ⟨us, []⟩ = pure (ps.zip us))
    (a : PySem.W.nsIn K mainGlobals x = some (some (.ref C))) (xL : K.lookup C = some (excClassObj nm q C N bs bm true sn sub ab col dd k0 k1 k2 k3 k5 "ValueError.__new__")) (rV : PySem.HandSPX.refsVE bm = true)
    (sa : PySem.W.findIn K (.ref C) "__setattr__" = some (some (.builtin "object.__setattr__"))) (eC : PySem.W.subIn K (.ref C) (.type "BaseException") = some true) (tC : PySem.W.typeIn K (.ref C) = some (.type "type")) (kC : PySem.W.keepIn K (.ref C) = true)
    (su : PySem.W.ks_superIn K C C "__init__" = some (some (.builtin "ValueError.__init__"))) (sV : PySem.W.subIn K (.ref C) (.type "ValueError") = some true) (mr : PySem.W.mroIn K C (.ref C) = some true) (op : PySem.W.nsIn K cStatics "thirdparty.any" = some none) (zs : PySem.W.nsIn K mainGlobals "super" = some none)
    (no : PySem.W.findIn K (.ref C) fl = some none) (i1 : PySem.W.findIn K (.ref C) "__init__" = some (some (.ref f))) (i2 : PySem.W.typeIn K (.ref f) = some (.type "function"))
    (i3 : K.lookup f = some ⟨oc, od, .func (PySem.W.ksFn "__init__" qual (defArgs st) (defBody st) (defScope st) .none kV doc pm an (.ref cda) ct cc), osl⟩) (i4 : PySem.W.codeIn K (.ref cda) qual = true) (i5 : K.lookup cc = some ⟨cl, cld, .cell (some (.ref C)), csl⟩)
    (i6 : K.lookup cda = some ⟨ccl, cdd, .fields vs, ccs⟩) (i7 : vs[2]? = some (.str file tf)) (i8 : ((PySem.Challenge.pw_framesays_k74_line_rounds.main.file : Str) == file) = true) : ErrK K mg x qual st C fl ps where
  U := ⟨⟨⟨_, _, _, _, _, _, _, _, _, _, _, _, _, _, _, xL, rV⟩, sa, eC, tC, kC⟩, su, sV, mr, op, PySem.W.mg_none_of X G zs⟩
  no := no
  hm := PySem.W.mg_of X G a
  ex := ⟨f, _, i1, i2, ⟨oc, od, kV, doc, pm, an, ct, osl, cc, cda, cl, cld, csl, ccl, cdd, vs, ccs, file, tf, rfl, i3, i4, i5, i6, i7, i8⟩, .all fun us hl => b _ _ _ _ _ _ _ us hl⟩
theorem exc_mk {C : Addr} (hg : PySem.W.findIn K (.ref C) "__getattribute__" = some (some (.builtin "BaseException.__getattribute__"))) (hk : PySem.W.findIn K (.ref C) "__getattr__" = some none) (hs : PySem.W.subIn K (.ref C) (.type "BaseException") = some true) (hd : PySem.W.hasDictIn K C = true)
    (ha : PySem.W.findIn K (.ref C) "__class__" = some (some (.builtin "object.__class__"))) (hn : PySem.W.specialIn K (.builtin "object.__class__") "__get__" = some (some (.builtin "getset_descriptor.__get__"))) (ht : PySem.W.takesIn K (.builtin "object.__class__") = some true) (hm : PySem.W.mroIn K C (.type "object") = some true) : ExcC K C :=
  ⟨hg, hk, hs, hd, ha, hn, ht, hm⟩
/-- what isinstance answers of an error of the class at C -/
structure KitR (K : PySem.W.Frag) (C c p a l w : Addr) (b1 b2 b3 : Bool) : Prop where
  k1 : PySem.W.kitOne K (.ref C) (.ref c) = some b1
  k2 : PySem.W.kitOne K (.ref C) (.ref p) = some b2
  k3 : PySem.W.kitOne K (.ref C) (.ref a) = some b3
  k4 : PySem.W.kitOne K (.ref C) (.ref l) = some false
  k5 : PySem.W.kitOne K (.ref C) (.ref w) = some false
  k6 : PySem.W.kitOne K (.ref C) (.type "ValueError") = some true
theorem all_mk (X : K.In h) (G : h.Ns mainGlobals mg) {c p a l w s L : Addr} (m1 : PySem.W.nsIn K mainGlobals "BadCount" = some (some (.ref c))) (m2 : PySem.W.nsIn K mainGlobals "BadPlace" = some (some (.ref p))) (m3 : PySem.W.nsIn K mainGlobals "Apart" = some (some (.ref a)))
    (m4 : PySem.W.nsIn K mainGlobals "BadLine" = some (some (.ref l))) (m5 : PySem.W.nsIn K mainGlobals "TooWide" = some (some (.ref w))) (m6 : PySem.W.nsIn K mainGlobals "SayError" = some (some (.ref s))) (m7 : PySem.W.nsIn K mainGlobals "Line" = some (some (.ref L)))
    (T : Cst K mg) (hL : LineK K mg L) (eC : ErrK K mg "BadCount" "BadCount.__init__" sCount c "count" ["self", "count"]) (eP : ErrK K mg "BadPlace" "BadPlace.__init__" sPlace p "place" ["self", "place"]) (eA : ErrK K mg "Apart" "Apart.__init__" sApart a "rounds" ["self", "rounds"])
    (x1 : ExcC K c) (x2 : ExcC K p) (x3 : ExcC K a) (k1 : KitR K c c p a l w true false false) (k2 : KitR K p c p a l w false true false) (k3 : KitR K a c p a l w false false true)
    (y1 : PySem.W.exmOne K (.ref c) (.ref s) = some true) (y2 : PySem.W.exmOne K (.ref p) (.ref s) = some true) (y3 : PySem.W.exmOne K (.ref a) (.ref s) = some true)
    (dfin : Dfn K mg "_finite_blocks" sFin ["many"])
    (dleft : Dfn K mg "left_blocks" sLeft ["blocks", "index", "number"])
    (dright : Dfn K mg "right_blocks" sRight ["blocks", "index", "number"])
    (dform : Dfn K mg "_form" sForm ["blocks", "most"])
    (dhalves : Dfn K mg "_halves" sHalves ["blocks", "index", "number", "most"])
    (dnumOf : Dfn K mg "_numbers_of" sNumOf ["pair", "numbers"])
    (dplc : Dfn K mg "_enough_places" sPlc ["blocks", "most"])
    (dFN : Dfn K mg "_form_numbers" sFN ["forms", "rounds"])
    (dBA : Dfn K mg "_blocks_alike" sBA ["blocks", "others", "rounds"])
    (dCR : Dfn K mg "check_line_rounds" sCR ["rounds", "least"])
    (dIB : Dfn K mg "_is_block" sIB ["block"])
    (dCP : Dfn K mg "check_line_place" sCP ["line", "place"])
    (dLA : Dfn K mg "lines_alike" sLA ["first", "second", "rounds"])
    (dLP : Dfn K mg "line_pair" sLP ["rounds"])
    (dAn : Dfn K mg "line_answer" sAn ["first", "second", "rounds", "side", "place"])
    (dLB : Dfn K mg "loeb_breaker" sLB ["line"])
    (dCl : Dfn K mg "_law_cells" sCl ["script"])
    (dTk : Dfn K mg "_law_take" sTk ["state", "many"])
    (dSm : Dfn K mg "_law_same" sSame ["told", "due"])
    (dPO : Dfn K mg "_law_part_of" sPO ["blocks", "place", "ahead"])
    (dNm : Dfn K mg "_law_normal" sNm ["blocks", "rounds"])
    (dSp : Dfn K mg "_law_spots" sSp ["blocks", "most"])
    (dPB : Dfn K mg "_law_parts_below" sPB ["line", "rounds"])
    (dFT : Dfn K mg "_law_find_types" sFT ["lines", "rounds"])
    (dLAn : Dfn K mg "_law_answer" sLAn ["source", "target", "rounds", "place"])
    (dDB : Dfn K mg "_law_draw_blocks" sDB ["state", "most"])
    (dLk : Dfn K mg "_law_like" sLk ["state", "blocks", "rounds"])
    (dDP : Dfn K mg "_law_draw_place" sDP ["state", "blocks"])
    (dNd : Dfn K mg "_law_named" sNd ["e"])
    (dTr : Dfn K mg "_law_try" sTr ["which", "first", "second", "rounds", "side", "place"])
    (dPl : Dfn K mg "_law_play" sPl ["state", "first", "second", "rounds"])
    (dRf : Dfn K mg "_law_refused" sRf ["state", "first", "second", "rounds", "alike"])
    (dBD : Dfn K mg "_law_breaker_due" sBD ["blocks"])
    (dFP : Dfn K mg "_law_facts_part" sFP ["state", "blocks"])
    (dLaw : Dfn K mg "law" sLaw ["script"]) : AllK K mg ⟨c, p, a, w, l, s, L⟩ where
  T := T
  L := hL
  eC := eC
  eP := eP
  eA := eA
  N := {
    ec := fun e => by cases e with | count i => exact x1 | place i j => exact x2 | apart i => exact x3
    xf := fun e => by cases e with | count i => exact ⟨x1.hg, x1.hk, x1.hs, x1.hd⟩ | place i j => exact ⟨x2.hg, x2.hk, x2.hs, x2.hd⟩ | apart i => exact ⟨x3.hg, x3.hk, x3.hs, x3.hd⟩
    no := fun e => by cases e with | count i => exact eC.no | place i j => exact eP.no | apart i => exact eA.no
    k1 := fun e => by cases e with | count i => exact k1.k1 | place i j => exact k2.k1 | apart i => exact k3.k1
    k2 := fun e => by cases e with | count i => exact k1.k2 | place i j => exact k2.k2 | apart i => exact k3.k2
    k3 := fun e => by cases e with | count i => exact k1.k3 | place i j => exact k2.k3 | apart i => exact k3.k3
    k4 := fun e => by cases e with | count i => exact k1.k4 | place i j => exact k2.k4 | apart i => exact k3.k4
    k5 := fun e => by cases e with | count i => exact k1.k5 | place i j => exact k2.k5 | apart i => exact k3.k5
    k6 := fun e => by cases e with | count i => exact k1.k6 | place i j => exact k2.k6 | apart i => exact k3.k6
    m1 := PySem.W.mg_of X G m1
    m2 := PySem.W.mg_of X G m2
    m3 := PySem.W.mg_of X G m3
    m4 := PySem.W.mg_of X G m4
    m5 := PySem.W.mg_of X G m5
    rp := T.bt.repr }
  S := ⟨PySem.W.mg_of X G m6, fun e => by cases e with | count i => exact y1 | place i j => exact y2 | apart i => exact y3⟩
  dfin := dfin
  dleft := dleft
  dright := dright
  dform := dform
  dhalves := dhalves
  dnumOf := dnumOf
  dplc := dplc
  dFN := dFN
  dBA := dBA
  dCR := dCR
  dIB := dIB
  dCP := dCP
  dLA := dLA
  dLP := dLP
  dAn := dAn
  dLB := dLB
  dCl := dCl
  dTk := dTk
  dSm := dSm
  dPO := dPO
  dNm := dNm
  dSp := dSp
  dPB := dPB
  dFT := dFT
  dLAn := dLAn
  dDB := dDB
  dLk := dLk
  dDP := dDP
  dNd := dNd
  dTr := dTr
  dPl := dPl
  dRf := dRf
  dBD := dBD
  dFP := dFP
  dLaw := dLaw
end
end K74
open PySem PySem.W PyProof.Rows
set_option maxHeartbeats 0 in
theorem PySem.Challenge.cw_framesays_k74_line_rounds_holds : PySem.Challenge.rw_framesays_k74_line_rounds.Holds := by
  w_on; o_law; k_head; (case hw => w_witness2)
  k_fill
  refine K74.walkG rfl rfl (fun w h Y => PySem.W.kIn_of Y) ?F
  case F =>
    intro w mg h KX G
    refine' ⟨⟨_, _, _, _, _, _, _⟩, K74.all_mk KX G ?m1 ?m2 ?m3 ?m4 ?m5 ?m6 ?m7 ?cT ?cL ?eC ?eP ?eA ?x1 ?x2 ?x3 ?q1 ?q2 ?q3 ?y1 ?y2 ?y3 ?dfin ?dleft ?dright ?dform ?dhalves ?dnumOf ?dplc ?dFN ?dBA ?dCR ?dIB ?dCP ?dLA ?dLP ?dAn ?dLB ?dCl ?dTk ?dSm ?dPO ?dNm ?dSp ?dPB ?dFT ?dLAn ?dDB ?dLk ?dDP ?dNd ?dTr ?dPl ?dRf ?dBD ?dFP ?dLaw⟩
    (case m1 => k_is)
    (case m2 => k_is)
    (case m3 => k_is)
    (case m4 => k_is)
    (case m5 => k_is)
    (case m6 => k_is)
    (case m7 => k_is)
    case cT =>
      refine' K74.cst_mk KX G ?z0 ?z1 ?z2 ?z3 ?z4 ?z5 ?z6 ?z7 ?z8 ?z9 ?z10 ?z11 ?z12 ?z13 ?z14 ?z15 ?z16 ?e1 ?e2 ?e3 ?e4 ?e5
      (case z0 => k_is)
      (case z1 => k_is)
      (case z2 => k_is)
      (case z3 => k_is)
      (case z4 => k_is)
      (case z5 => k_is)
      (case z6 => k_is)
      (case z7 => k_is)
      (case z8 => k_is)
      (case z9 => k_is)
      (case z10 => k_is)
      (case z11 => k_is)
      (case z12 => k_is)
      (case z13 => k_is)
      (case z14 => k_is)
      (case z15 => k_is)
      (case z16 => k_is)
      (case e1 => k_is)
      (case e2 => k_is)
      (case e3 => k_is)
      (case e4 => k_is)
      (case e5 => k_is)
    case cL =>
      refine' K74.line_mk KX G ?a ?pg ?hd ?po ?sa ?nb ?nt ?mk ?kC ?i1 ?i2 ?i3 ?i4 ?i5 ?j1 ?j2 ?j3 ?j4 ?j5
      (case a => k_is)
      (case pg => k_is)
      (case hd => k_is)
      (case po => k_is)
      (case sa => k_is)
      (case nb => k_is)
      (case nt => k_is)
      (case mk => k_is)
      (case kC => k_is)
      (case i1 => k_is)
      (case i2 => k_is)
      (case i3 => k_is)
      (case i4 => k_is)
      (case i5 => k_is)
      (case j1 => k_is)
      (case j2 => k_is)
      (case j3 => k_is)
      (case j4 => k_is)
      (case j5 => k_is)
    case eC =>
      refine' K74.err_mk KX G ?b ?a ?xL ?rV ?sa ?eC ?tC ?kC ?su ?sV ?mr ?op ?zs ?no ?i1 ?i2 ?i3 ?i4 ?i5 ?i6 ?i7 ?i8
      (case b => exact fun _ _ _ _ _ _ _ us hl => match us, hl with | [_, _], _ => rfl)
      (case a => k_is)
      (case xL => k_is)
      (case rV => first | rfl | kernel_rfl)
      (case sa => k_is)
      (case eC => k_is)
      (case tC => k_is)
      (case kC => k_is)
      (case su => ks_is)
      (case sV => k_is)
      (case mr => k_is)
      (case op => k_is)
      (case zs => k_is)
      (case no => k_is)
      (case i1 => k_is)
      (case i2 => k_is)
      (case i3 => k_is)
      (case i4 => k_is)
      (case i5 => k_is)
      (case i6 => k_is)
      (case i7 => rfl)
      (case i8 => first | rfl | decide +kernel | kernel_rfl)
    case eP =>
      refine' K74.err_mk KX G ?b ?a ?xL ?rV ?sa ?eC ?tC ?kC ?su ?sV ?mr ?op ?zs ?no ?i1 ?i2 ?i3 ?i4 ?i5 ?i6 ?i7 ?i8
      (case b => exact fun _ _ _ _ _ _ _ us hl => match us, hl with | [_, _], _ => rfl)
      (case a => k_is)
      (case xL => k_is)
      (case rV => first | rfl | kernel_rfl)
      (case sa => k_is)
      (case eC => k_is)
      (case tC => k_is)
      (case kC => k_is)
      (case su => ks_is)
      (case sV => k_is)
      (case mr => k_is)
      (case op => k_is)
      (case zs => k_is)
      (case no => k_is)
      (case i1 => k_is)
      (case i2 => k_is)
      (case i3 => k_is)
      (case i4 => k_is)
      (case i5 => k_is)
      (case i6 => k_is)
      (case i7 => rfl)
      (case i8 => first | rfl | decide +kernel | kernel_rfl)
    case eA =>
      refine' K74.err_mk KX G ?b ?a ?xL ?rV ?sa ?eC ?tC ?kC ?su ?sV ?mr ?op ?zs ?no ?i1 ?i2 ?i3 ?i4 ?i5 ?i6 ?i7 ?i8
      (case b => exact fun _ _ _ _ _ _ _ us hl => match us, hl with | [_, _], _ => rfl)
      (case a => k_is)
      (case xL => k_is)
      (case rV => first | rfl | kernel_rfl)
      (case sa => k_is)
      (case eC => k_is)
      (case tC => k_is)
      (case kC => k_is)
      (case su => ks_is)
      (case sV => k_is)
      (case mr => k_is)
      (case op => k_is)
      (case zs => k_is)
      (case no => k_is)
      (case i1 => k_is)
      (case i2 => k_is)
      (case i3 => k_is)
      (case i4 => k_is)
      (case i5 => k_is)
      (case i6 => k_is)
      (case i7 => rfl)
      (case i8 => first | rfl | decide +kernel | kernel_rfl)
    case x1 =>
      refine' K74.exc_mk ?hg ?hk ?hs ?hd ?ha ?hn ?ht ?hm
      (case hg => k_is)
      (case hk => k_is)
      (case hs => k_is)
      (case hd => k_is)
      (case ha => k_is)
      (case hn => k_is)
      (case ht => k_is)
      (case hm => k_is)
    case x2 =>
      refine' K74.exc_mk ?hg ?hk ?hs ?hd ?ha ?hn ?ht ?hm
      (case hg => k_is)
      (case hk => k_is)
      (case hs => k_is)
      (case hd => k_is)
      (case ha => k_is)
      (case hn => k_is)
      (case ht => k_is)
      (case hm => k_is)
    case x3 =>
      refine' K74.exc_mk ?hg ?hk ?hs ?hd ?ha ?hn ?ht ?hm
      (case hg => k_is)
      (case hk => k_is)
      (case hs => k_is)
      (case hd => k_is)
      (case ha => k_is)
      (case hn => k_is)
      (case ht => k_is)
      (case hm => k_is)
    (case q1 => exact ⟨by kernel_rfl, by kernel_rfl, by kernel_rfl, by kernel_rfl, by kernel_rfl, by kernel_rfl⟩)
    (case q2 => exact ⟨by kernel_rfl, by kernel_rfl, by kernel_rfl, by kernel_rfl, by kernel_rfl, by kernel_rfl⟩)
    (case q3 => exact ⟨by kernel_rfl, by kernel_rfl, by kernel_rfl, by kernel_rfl, by kernel_rfl, by kernel_rfl⟩)
    (case y1 => kernel_rfl)
    (case y2 => kernel_rfl)
    (case y3 => kernel_rfl)
    case dfin =>
      refine' K74.dfn_mk KX G K74.b_fin ?a ?l ?c ?k
      (case a => k_is)
      (case l => k_is)
      (case c => k_is)
      (case k => k_is)
    case dleft =>
      refine' K74.dfn_mk KX G K74.b_left ?a ?l ?c ?k
      (case a => k_is)
      (case l => k_is)
      (case c => k_is)
      (case k => k_is)
    case dright =>
      refine' K74.dfn_mk KX G K74.b_right ?a ?l ?c ?k
      (case a => k_is)
      (case l => k_is)
      (case c => k_is)
      (case k => k_is)
    case dform =>
      refine' K74.dfn_mk KX G K74.b_form ?a ?l ?c ?k
      (case a => k_is)
      (case l => k_is)
      (case c => k_is)
      (case k => k_is)
    case dhalves =>
      refine' K74.dfn_mk KX G K74.b_halves ?a ?l ?c ?k
      (case a => k_is)
      (case l => k_is)
      (case c => k_is)
      (case k => k_is)
    case dnumOf =>
      refine' K74.dfn_mk KX G K74.b_numOf ?a ?l ?c ?k
      (case a => k_is)
      (case l => k_is)
      (case c => k_is)
      (case k => k_is)
    case dplc =>
      refine' K74.dfn_mk KX G K74.b_plc ?a ?l ?c ?k
      (case a => k_is)
      (case l => k_is)
      (case c => k_is)
      (case k => k_is)
    case dFN =>
      refine' K74.dfn_mk KX G K74.b_FN ?a ?l ?c ?k
      (case a => k_is)
      (case l => k_is)
      (case c => k_is)
      (case k => k_is)
    case dBA =>
      refine' K74.dfn_mk KX G K74.b_BA ?a ?l ?c ?k
      (case a => k_is)
      (case l => k_is)
      (case c => k_is)
      (case k => k_is)
    case dCR =>
      refine' K74.dfn_mk KX G K74.b_CR ?a ?l ?c ?k
      (case a => k_is)
      (case l => k_is)
      (case c => k_is)
      (case k => k_is)
    case dIB =>
      refine' K74.dfn_mk KX G K74.b_IB ?a ?l ?c ?k
      (case a => k_is)
      (case l => k_is)
      (case c => k_is)
      (case k => k_is)
    case dCP =>
      refine' K74.dfn_mk KX G K74.b_CP ?a ?l ?c ?k
      (case a => k_is)
      (case l => k_is)
      (case c => k_is)
      (case k => k_is)
    case dLA =>
      refine' K74.dfn_mk KX G K74.b_LA ?a ?l ?c ?k
      (case a => k_is)
      (case l => k_is)
      (case c => k_is)
      (case k => k_is)
    case dLP =>
      refine' K74.dfn_mk KX G K74.b_LP ?a ?l ?c ?k
      (case a => k_is)
      (case l => k_is)
      (case c => k_is)
      (case k => k_is)
    case dAn =>
      refine' K74.dfn_mk KX G K74.b_An ?a ?l ?c ?k
      (case a => k_is)
      (case l => k_is)
      (case c => k_is)
      (case k => k_is)
    case dLB =>
      refine' K74.dfn_mk KX G K74.b_LB ?a ?l ?c ?k
      (case a => k_is)
      (case l => k_is)
      (case c => k_is)
      (case k => k_is)
    case dCl =>
      refine' K74.dfn_mk KX G K74.b_Cl ?a ?l ?c ?k
      (case a => k_is)
      (case l => k_is)
      (case c => k_is)
      (case k => k_is)
    case dTk =>
      refine' K74.dfn_mk KX G K74.b_Tk ?a ?l ?c ?k
      (case a => k_is)
      (case l => k_is)
      (case c => k_is)
      (case k => k_is)
    case dSm =>
      refine' K74.dfn_mk KX G K74.b_Sm ?a ?l ?c ?k
      (case a => k_is)
      (case l => k_is)
      (case c => k_is)
      (case k => k_is)
    case dPO =>
      refine' K74.dfn_mk KX G K74.b_PO ?a ?l ?c ?k
      (case a => k_is)
      (case l => k_is)
      (case c => k_is)
      (case k => k_is)
    case dNm =>
      refine' K74.dfn_mk KX G K74.b_Nm ?a ?l ?c ?k
      (case a => k_is)
      (case l => k_is)
      (case c => k_is)
      (case k => k_is)
    case dSp =>
      refine' K74.dfn_mk KX G K74.b_Sp ?a ?l ?c ?k
      (case a => k_is)
      (case l => k_is)
      (case c => k_is)
      (case k => k_is)
    case dPB =>
      refine' K74.dfn_mk KX G K74.b_PB ?a ?l ?c ?k
      (case a => k_is)
      (case l => k_is)
      (case c => k_is)
      (case k => k_is)
    case dFT =>
      refine' K74.dfn_mk KX G K74.b_FT ?a ?l ?c ?k
      (case a => k_is)
      (case l => k_is)
      (case c => k_is)
      (case k => k_is)
    case dLAn =>
      refine' K74.dfn_mk KX G K74.b_LAn ?a ?l ?c ?k
      (case a => k_is)
      (case l => k_is)
      (case c => k_is)
      (case k => k_is)
    case dDB =>
      refine' K74.dfn_mk KX G K74.b_DB ?a ?l ?c ?k
      (case a => k_is)
      (case l => k_is)
      (case c => k_is)
      (case k => k_is)
    case dLk =>
      refine' K74.dfn_mk KX G K74.b_Lk ?a ?l ?c ?k
      (case a => k_is)
      (case l => k_is)
      (case c => k_is)
      (case k => k_is)
    case dDP =>
      refine' K74.dfn_mk KX G K74.b_DP ?a ?l ?c ?k
      (case a => k_is)
      (case l => k_is)
      (case c => k_is)
      (case k => k_is)
    case dNd =>
      refine' K74.dfn_mk KX G K74.b_Nd ?a ?l ?c ?k
      (case a => k_is)
      (case l => k_is)
      (case c => k_is)
      (case k => k_is)
    case dTr =>
      refine' K74.dfn_mk KX G K74.b_Tr ?a ?l ?c ?k
      (case a => k_is)
      (case l => k_is)
      (case c => k_is)
      (case k => k_is)
    case dPl =>
      refine' K74.dfn_mk KX G K74.b_Pl ?a ?l ?c ?k
      (case a => k_is)
      (case l => k_is)
      (case c => k_is)
      (case k => k_is)
    case dRf =>
      refine' K74.dfn_mk KX G K74.b_Rf ?a ?l ?c ?k
      (case a => k_is)
      (case l => k_is)
      (case c => k_is)
      (case k => k_is)
    case dBD =>
      refine' K74.dfn_mk KX G K74.b_BD ?a ?l ?c ?k
      (case a => k_is)
      (case l => k_is)
      (case c => k_is)
      (case k => k_is)
    case dFP =>
      refine' K74.dfn_mk KX G K74.b_FP ?a ?l ?c ?k
      (case a => k_is)
      (case l => k_is)
      (case c => k_is)
      (case k => k_is)
    case dLaw =>
      refine' K74.dfn_mk KX G K74.b_Law ?a ?l ?c ?k
      (case a => k_is)
      (case l => k_is)
      (case c => k_is)
      (case k => k_is)
